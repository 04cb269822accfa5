import PyProof.Rows.All
import Wide.All
import OpenK.AllK
import Wide.FinOn
import PySem.Challenge.RW_sa0224_01
open PySem PySem.W PyProof.Rows PySem.Calls
set_option Elab.async false
namespace Mine
set_option linter.unusedVariables false
section
set_option maxRecDepth 100000
set_option linter.unusedVariables false
noncomputable abbrev pw : Program := PySem.Challenge.pw_sa0224_01
noncomputable def stmtAt (i : Nat) : Stmt := (pw.main.body[i]?).getD (.Pass ⟨0, 0, 0, 0⟩)
noncomputable def initA : Arguments × List Stmt × Scope := match stmtAt 9 with
  | .ClassDef _ _ _ (.FunctionDef _ a b _ _ _ sc _ _ _ :: _) _ _ _ _ _ _ _ => (a, b, sc)
  | _ => default
noncomputable def oA2 (P : Params) : Obj := { cls := Value.none, data := Data.dict #[{ hash := PyData.keyHash P (Str.ofString "type.__subclasses__.Exception.0"), key := Value.str (Str.ofString "type.__subclasses__.Exception.0") 232, val := Value.int 31 0 }, { hash := PyData.keyHash P (Str.ofString "type.__subclasses__.Exception.n"), key := Value.str (Str.ofString "type.__subclasses__.Exception.n") 233, val := Value.int 1 0 }] 2 }
noncomputable def oA3 (P : Params) : Obj := { cls := Value.type "dict", data := Data.dict #[{ hash := PyData.keyHash P (Str.ofString "__name__"), key := Value.str (Str.ofString "__name__") 165, val := Value.str (Str.ofString "framerune.ops") 252 }, { hash := PyData.keyHash P (Str.ofString "__doc__"), key := Value.str (Str.ofString "__doc__") 166, val := Value.none }, { hash := PyData.keyHash P (Str.ofString "__package__"), key := Value.str (Str.ofString "__package__") 167, val := Value.none }, { hash := PyData.keyHash P (Str.ofString "__loader__"), key := Value.str (Str.ofString "__loader__") 168, val := Value.builtin "__main__.__loader__#opaque" }, { hash := PyData.keyHash P (Str.ofString "__spec__"), key := Value.str (Str.ofString "__spec__") 169, val := Value.none }, { hash := PyData.keyHash P (Str.ofString "__annotations__"), key := Value.str (Str.ofString "__annotations__") 170, val := Value.ref 6 }, { hash := PyData.keyHash P (Str.ofString "__builtins__"), key := Value.str (Str.ofString "__builtins__") 171, val := Value.ref 4 }, { hash := PyData.keyHash P (Str.ofString "__file__"), key := Value.str (Str.ofString "__file__") 173, val := Value.str (Str.ofString "/claim/cut.py") 172 }, { hash := PyData.keyHash P (Str.ofString "__cached__"), key := Value.str (Str.ofString "__cached__") 174, val := Value.none }, { hash := PyData.keyHash P (Str.ofString "OP_BR"), key := Value.str (Str.ofString "OP_BR") 188, val := Value.int 56 187 }, { hash := PyData.keyHash P (Str.ofString "OP_SWITCH"), key := Value.str (Str.ofString "OP_SWITCH") 190, val := Value.int 69 189 }, { hash := PyData.keyHash P (Str.ofString "OP_CALLVIRT"), key := Value.str (Str.ofString "OP_CALLVIRT") 192, val := Value.int 111 191 }, { hash := PyData.keyHash P (Str.ofString "OP_LDELEMA"), key := Value.str (Str.ofString "OP_LDELEMA") 194, val := Value.int 143 193 }, { hash := PyData.keyHash P (Str.ofString "OP_LEAVE"), key := Value.str (Str.ofString "OP_LEAVE") 196, val := Value.int 221 195 }, { hash := PyData.keyHash P (Str.ofString "OP_CONSTRAINED"), key := Value.str (Str.ofString "OP_CONSTRAINED") 198, val := Value.int 65046 197 }, { hash := PyData.keyHash P (Str.ofString "OP_READONLY"), key := Value.str (Str.ofString "OP_READONLY") 200, val := Value.int 65054 199 }, { hash := PyData.keyHash P (Str.ofString "EC_FILTER"), key := Value.str (Str.ofString "EC_FILTER") 202, val := Value.int 1 201 }, { hash := PyData.keyHash P (Str.ofString "RuneError"), key := Value.str (Str.ofString "RuneError") 235, val := Value.ref 31 }, { hash := PyData.keyHash P (Str.ofString "BadCode"), key := Value.str (Str.ofString "BadCode") 251, val := Value.ref 44 }, { hash := PyData.keyHash P (Str.ofString "SO_NONE"), key := Value.str (Str.ofString "SO_NONE") 255, val := Value.int 0 254 }, { hash := PyData.keyHash P (Str.ofString "SO_I4"), key := Value.str (Str.ofString "SO_I4") 257, val := Value.int 1 256 }, { hash := PyData.keyHash P (Str.ofString "SO_I8"), key := Value.str (Str.ofString "SO_I8") 259, val := Value.int 2 258 }, { hash := PyData.keyHash P (Str.ofString "SO_ARG"), key := Value.str (Str.ofString "SO_ARG") 261, val := Value.int 3 260 }, { hash := PyData.keyHash P (Str.ofString "SO_LOCAL"), key := Value.str (Str.ofString "SO_LOCAL") 263, val := Value.int 4 262 }, { hash := PyData.keyHash P (Str.ofString "SO_BRANCH"), key := Value.str (Str.ofString "SO_BRANCH") 265, val := Value.int 5 264 }, { hash := PyData.keyHash P (Str.ofString "SO_SWITCH"), key := Value.str (Str.ofString "SO_SWITCH") 267, val := Value.int 6 266 }, { hash := PyData.keyHash P (Str.ofString "SO_KIND"), key := Value.str (Str.ofString "SO_KIND") 269, val := Value.int 7 268 }, { hash := PyData.keyHash P (Str.ofString "SO_FIELD"), key := Value.str (Str.ofString "SO_FIELD") 271, val := Value.int 8 270 }, { hash := PyData.keyHash P (Str.ofString "SO_METHOD"), key := Value.str (Str.ofString "SO_METHOD") 273, val := Value.int 9 272 }, { hash := PyData.keyHash P (Str.ofString "SO_TEXT"), key := Value.str (Str.ofString "SO_TEXT") 275, val := Value.int 10 274 }, { hash := PyData.keyHash P (Str.ofString "SO_TOKEN"), key := Value.str (Str.ofString "SO_TOKEN") 277, val := Value.int 11 276 }] 31 }
noncomputable def oB3 (P : Params) : Obj := { cls := Value.type "dict", data := Data.dict #[{ hash := PyData.keyHash P (Str.ofString "__name__"), key := Value.str (Str.ofString "__name__") 165, val := Value.str (Str.ofString "framerune.ops") 252 }, { hash := PyData.keyHash P (Str.ofString "__doc__"), key := Value.str (Str.ofString "__doc__") 166, val := Value.none }, { hash := PyData.keyHash P (Str.ofString "__package__"), key := Value.str (Str.ofString "__package__") 167, val := Value.none }, { hash := PyData.keyHash P (Str.ofString "__loader__"), key := Value.str (Str.ofString "__loader__") 168, val := Value.builtin "__main__.__loader__#opaque" }, { hash := PyData.keyHash P (Str.ofString "__spec__"), key := Value.str (Str.ofString "__spec__") 169, val := Value.none }, { hash := PyData.keyHash P (Str.ofString "__annotations__"), key := Value.str (Str.ofString "__annotations__") 170, val := Value.ref 6 }, { hash := PyData.keyHash P (Str.ofString "__builtins__"), key := Value.str (Str.ofString "__builtins__") 171, val := Value.ref 4 }, { hash := PyData.keyHash P (Str.ofString "__file__"), key := Value.str (Str.ofString "__file__") 173, val := Value.str (Str.ofString "/claim/cut.py") 172 }, { hash := PyData.keyHash P (Str.ofString "__cached__"), key := Value.str (Str.ofString "__cached__") 174, val := Value.none }, { hash := PyData.keyHash P (Str.ofString "OP_BR"), key := Value.str (Str.ofString "OP_BR") 188, val := Value.int 56 187 }, { hash := PyData.keyHash P (Str.ofString "OP_SWITCH"), key := Value.str (Str.ofString "OP_SWITCH") 190, val := Value.int 69 189 }, { hash := PyData.keyHash P (Str.ofString "OP_CALLVIRT"), key := Value.str (Str.ofString "OP_CALLVIRT") 192, val := Value.int 111 191 }, { hash := PyData.keyHash P (Str.ofString "OP_LDELEMA"), key := Value.str (Str.ofString "OP_LDELEMA") 194, val := Value.int 143 193 }, { hash := PyData.keyHash P (Str.ofString "OP_LEAVE"), key := Value.str (Str.ofString "OP_LEAVE") 196, val := Value.int 221 195 }, { hash := PyData.keyHash P (Str.ofString "OP_CONSTRAINED"), key := Value.str (Str.ofString "OP_CONSTRAINED") 198, val := Value.int 65046 197 }, { hash := PyData.keyHash P (Str.ofString "OP_READONLY"), key := Value.str (Str.ofString "OP_READONLY") 200, val := Value.int 65054 199 }, { hash := PyData.keyHash P (Str.ofString "EC_FILTER"), key := Value.str (Str.ofString "EC_FILTER") 202, val := Value.int 1 201 }, { hash := PyData.keyHash P (Str.ofString "RuneError"), key := Value.str (Str.ofString "RuneError") 235, val := Value.ref 31 }, { hash := PyData.keyHash P (Str.ofString "BadCode"), key := Value.str (Str.ofString "BadCode") 251, val := Value.ref 44 }, { hash := PyData.keyHash P (Str.ofString "SO_NONE"), key := Value.str (Str.ofString "SO_NONE") 255, val := Value.int 0 254 }, { hash := PyData.keyHash P (Str.ofString "SO_I4"), key := Value.str (Str.ofString "SO_I4") 257, val := Value.int 1 256 }, { hash := PyData.keyHash P (Str.ofString "SO_I8"), key := Value.str (Str.ofString "SO_I8") 259, val := Value.int 2 258 }, { hash := PyData.keyHash P (Str.ofString "SO_ARG"), key := Value.str (Str.ofString "SO_ARG") 261, val := Value.int 3 260 }, { hash := PyData.keyHash P (Str.ofString "SO_LOCAL"), key := Value.str (Str.ofString "SO_LOCAL") 263, val := Value.int 4 262 }, { hash := PyData.keyHash P (Str.ofString "SO_BRANCH"), key := Value.str (Str.ofString "SO_BRANCH") 265, val := Value.int 5 264 }, { hash := PyData.keyHash P (Str.ofString "SO_SWITCH"), key := Value.str (Str.ofString "SO_SWITCH") 267, val := Value.int 6 266 }, { hash := PyData.keyHash P (Str.ofString "SO_KIND"), key := Value.str (Str.ofString "SO_KIND") 269, val := Value.int 7 268 }, { hash := PyData.keyHash P (Str.ofString "SO_FIELD"), key := Value.str (Str.ofString "SO_FIELD") 271, val := Value.int 8 270 }, { hash := PyData.keyHash P (Str.ofString "SO_METHOD"), key := Value.str (Str.ofString "SO_METHOD") 273, val := Value.int 9 272 }, { hash := PyData.keyHash P (Str.ofString "SO_TEXT"), key := Value.str (Str.ofString "SO_TEXT") 275, val := Value.int 10 274 }, { hash := PyData.keyHash P (Str.ofString "SO_TOKEN"), key := Value.str (Str.ofString "SO_TOKEN") 277, val := Value.int 11 276 }, { hash := PyData.keyHash P (Str.ofString "OP_SORT"), key := Value.str (Str.ofString "OP_SORT") 530, val := Value.ref 47 }] 32 }
noncomputable def oA11 (P : Params) : Obj := { cls := Value.type "tuple", data := Data.seq #[] }
noncomputable def oA12 (P : Params) : Obj := { cls := Value.none, data := Data.fields #[Value.int 10 0, Value.int 0 0, Value.ref 20, Value.int 15 0, Value.int 0 0, Value.ref 40] }
noncomputable def oA13 (P : Params) : Obj := { cls := Value.type "code", data := Data.fields #[Value.str (Str.ofString "<module>") 182, Value.str (Str.ofString "<module>") 183, Value.str (Str.ofString "/claim/cut.py") 184, Value.int 1 0, Value.int 0 0, Value.int 0 0, Value.int 0 0, Value.int 0 0, Value.ref 11, Value.bool false, Value.int 181 0, Value.ref 12, Value.none, Value.none, Value.none, Value.none, Value.int 185 0, Value.int 1 0, Value.str (Str.ofString "/claim/cut.py") 186] }
noncomputable def oA14 (P : Params) : Obj := { cls := Value.type "frame", slots := #[some (Value.ref 13), some (Value.ref 3), some (Value.ref 3), none, some (Value.str (Str.ofString "__main__") 164), none, some (Value.ref 0)] }
noncomputable def oA15 (P : Params) : Obj := { cls := Value.type "tuple", data := Data.seq #[Value.type "Exception"] }
noncomputable def oA16 (P : Params) : Obj := { cls := Value.type "builtin_function_or_method", data := Data.fields #[Value.builtin "type.__prepare__", Value.type "type"] }
noncomputable def oA17 (P : Params) : Obj := { cls := Value.type "dict", data := Data.dict #[{ hash := PyData.keyHash P (Str.ofString "__module__"), key := Value.str (Str.ofString "__module__") 212, val := Value.str (Str.ofString "framerune.faults") 203 }, { hash := PyData.keyHash P (Str.ofString "__qualname__"), key := Value.str (Str.ofString "__qualname__") 214, val := Value.str (Str.ofString "RuneError") 213 }, { hash := PyData.keyHash P (Str.ofString "__firstlineno__"), key := Value.str (Str.ofString "__firstlineno__") 216, val := Value.int 10 215 }, { hash := PyData.keyHash P (Str.ofString "__init__"), key := Value.str (Str.ofString "__init__") 225, val := Value.ref 28 }, { hash := PyData.keyHash P (Str.ofString "__static_attributes__"), key := Value.str (Str.ofString "__static_attributes__") 228, val := Value.ref 29 }] 5 }
noncomputable def oA18 (P : Params) : Obj := { cls := Value.type "tuple", data := Data.seq #[] }
noncomputable def oA19 (P : Params) : Obj := { cls := Value.none, data := Data.fields #[Value.int 12 0, Value.int 4 0, Value.ref 27] }
noncomputable def oA20 (P : Params) : Obj := { cls := Value.type "code", data := Data.fields #[Value.str (Str.ofString "RuneError") 207, Value.str (Str.ofString "RuneError") 208, Value.str (Str.ofString "/claim/cut.py") 209, Value.int 10 0, Value.int 0 0, Value.int 0 0, Value.int 0 0, Value.int 0 0, Value.ref 18, Value.bool false, Value.int 181 0, Value.ref 19, Value.none, Value.none, Value.none, Value.none, Value.int 210 0, Value.int 10 0, Value.str (Str.ofString "/claim/cut.py") 211] }
noncomputable def oA21 (P : Params) : Obj := { cls := Value.type "frame", slots := #[some (Value.ref 20), some (Value.ref 3), some (Value.ref 17), none, some (Value.str (Str.ofString "framerune.faults") 203), none, some (Value.ref 0)] }
noncomputable def oA22 (P : Params) : Obj := { cls := Value.type "tuple", data := Data.seq #[] }
noncomputable def oA23 (P : Params) : Obj := { cls := Value.none, data := Data.fields #[] }
noncomputable def oA24 (P : Params) : Obj := { cls := Value.type "tuple", data := Data.seq #[Value.str (Str.ofString "self") 220, Value.str (Str.ofString "code") 221, Value.str (Str.ofString "at") 222] }
noncomputable def oA25 (P : Params) : Obj := { cls := Value.type "tuple", data := Data.seq #[] }
noncomputable def oA26 (P : Params) : Obj := { cls := Value.none, data := Data.func { name := Str.ofString "__init__", qualname := Str.ofString "RuneError.__init__", params := initA.1, body := .stmts initA.2.1, scope := initA.2.2, globals := 0, closure := [], defaults := Value.none, kwdefaults := Value.none } }
noncomputable def oA27 (P : Params) : Obj := { cls := Value.type "code", data := Data.fields #[Value.str (Str.ofString "__init__") 217, Value.str (Str.ofString "RuneError.__init__") 218, Value.str (Str.ofString "/claim/cut.py") 219, Value.int 12 0, Value.int 3 0, Value.int 0 0, Value.int 0 0, Value.int 3 0, Value.ref 22, Value.bool true, Value.int 181 0, Value.ref 23, Value.none, Value.ref 24, Value.ref 25, Value.ref 26, Value.int 223 0, Value.int 12 0, Value.str (Str.ofString "/claim/cut.py") 224] }
noncomputable def oA28 (P : Params) : Obj := { cls := Value.type "function", data := Data.func { name := Str.ofString "__init__", qualname := Str.ofString "RuneError.__init__", params := initA.1, body := .stmts initA.2.1, scope := initA.2.2, globals := 3, closure := [], defaults := Value.none, kwdefaults := Value.none, pyModule := Value.str (Str.ofString "framerune.faults") 203, code := Value.ref 27 } }
noncomputable def oA29 (P : Params) : Obj := { cls := Value.type "tuple", data := Data.seq #[Value.str (Str.ofString "at") 226, Value.str (Str.ofString "code") 227] }
noncomputable def oA30 (P : Params) : Obj := { cls := Value.type "dict", data := Data.dict #[{ hash := PyData.keyHash P (Str.ofString "__module__"), key := Value.str (Str.ofString "__module__") 212, val := Value.str (Str.ofString "framerune.faults") 203 }, { hash := PyData.keyHash P (Str.ofString "__firstlineno__"), key := Value.str (Str.ofString "__firstlineno__") 216, val := Value.int 10 215 }, { hash := PyData.keyHash P (Str.ofString "__init__"), key := Value.str (Str.ofString "__init__") 225, val := Value.ref 28 }, { hash := PyData.keyHash P (Str.ofString "__static_attributes__"), key := Value.str (Str.ofString "__static_attributes__") 228, val := Value.ref 29 }, { hash := PyData.keyHash P (Str.ofString "__weakref__"), key := Value.str (Str.ofString "__weakref__") 230, val := Value.ref 32 }, { hash := PyData.keyHash P (Str.ofString "__doc__"), key := Value.str (Str.ofString "__doc__") 231, val := Value.none }] 3 }
noncomputable def oA31 (P : Params) : Obj := { cls := Value.type "type", data := Data.cls { name := Str.ofString "RuneError", bases := [Value.type "Exception"], mro := [Value.ref 31, Value.type "Exception", Value.type "BaseException", Value.type "object"], ns := 30, qualname := Str.ofString "RuneError", subclasses := [Value.ref 44] }, slots := #[some (Value.ref 15), none, some (Value.str (Str.ofString "RuneError") 205), some (Value.str (Str.ofString "RuneError") 213), some (Value.builtin "Exception.__new__"), some (Value.bool true)] }
noncomputable def oA32 (P : Params) : Obj := { cls := Value.type "getset_descriptor", data := Data.fields #[Value.str (Str.ofString "__weakref__") 229, Value.ref 31, Value.builtin "ExceptionGroup.__weakref__", Value.none] }
noncomputable def oA33 (P : Params) : Obj := { cls := Value.type "super", data := Data.fields #[Value.ref 31, Value.ref 31, Value.ref 31] }
noncomputable def oA34 (P : Params) : Obj := { cls := Value.type "builtin_function_or_method", data := Data.fields #[Value.builtin "object.__init_subclass__", Value.ref 31] }
noncomputable def oA35 (P : Params) : Obj := { cls := Value.type "tuple", data := Data.seq #[Value.ref 31] }
noncomputable def oA36 (P : Params) : Obj := { cls := Value.type "builtin_function_or_method", data := Data.fields #[Value.builtin "type.__prepare__", Value.type "type"] }
noncomputable def oA37 (P : Params) : Obj := { cls := Value.type "dict", data := Data.dict #[{ hash := PyData.keyHash P (Str.ofString "__module__"), key := Value.str (Str.ofString "__module__") 243, val := Value.str (Str.ofString "framerune.faults") 203 }, { hash := PyData.keyHash P (Str.ofString "__qualname__"), key := Value.str (Str.ofString "__qualname__") 245, val := Value.str (Str.ofString "BadCode") 244 }, { hash := PyData.keyHash P (Str.ofString "__firstlineno__"), key := Value.str (Str.ofString "__firstlineno__") 247, val := Value.int 15 246 }, { hash := PyData.keyHash P (Str.ofString "__static_attributes__"), key := Value.str (Str.ofString "__static_attributes__") 248, val := Value.ref 42 }] 4 }
noncomputable def oA38 (P : Params) : Obj := { cls := Value.type "tuple", data := Data.seq #[] }
noncomputable def oA39 (P : Params) : Obj := { cls := Value.none, data := Data.fields #[] }
noncomputable def oA40 (P : Params) : Obj := { cls := Value.type "code", data := Data.fields #[Value.str (Str.ofString "BadCode") 238, Value.str (Str.ofString "BadCode") 239, Value.str (Str.ofString "/claim/cut.py") 240, Value.int 15 0, Value.int 0 0, Value.int 0 0, Value.int 0 0, Value.int 0 0, Value.ref 38, Value.bool false, Value.int 181 0, Value.ref 39, Value.none, Value.none, Value.none, Value.none, Value.int 241 0, Value.int 15 0, Value.str (Str.ofString "/claim/cut.py") 242] }
noncomputable def oA41 (P : Params) : Obj := { cls := Value.type "frame", slots := #[some (Value.ref 40), some (Value.ref 3), some (Value.ref 37), none, some (Value.str (Str.ofString "framerune.faults") 203), none, some (Value.ref 0)] }
noncomputable def oA42 (P : Params) : Obj := { cls := Value.type "tuple", data := Data.seq #[] }
noncomputable def oA43 (P : Params) : Obj := { cls := Value.type "dict", data := Data.dict #[{ hash := PyData.keyHash P (Str.ofString "__module__"), key := Value.str (Str.ofString "__module__") 243, val := Value.str (Str.ofString "framerune.faults") 203 }, { hash := PyData.keyHash P (Str.ofString "__firstlineno__"), key := Value.str (Str.ofString "__firstlineno__") 247, val := Value.int 15 246 }, { hash := PyData.keyHash P (Str.ofString "__static_attributes__"), key := Value.str (Str.ofString "__static_attributes__") 248, val := Value.ref 42 }, { hash := PyData.keyHash P (Str.ofString "__doc__"), key := Value.str (Str.ofString "__doc__") 249, val := Value.none }] 2 }
noncomputable def oA44 (P : Params) : Obj := { cls := Value.type "type", data := Data.cls { name := Str.ofString "BadCode", bases := [Value.ref 31], mro := [Value.ref 44, Value.ref 31, Value.type "Exception", Value.type "BaseException", Value.type "object"], ns := 43, qualname := Str.ofString "BadCode" }, slots := #[some (Value.ref 35), none, some (Value.str (Str.ofString "BadCode") 236), some (Value.str (Str.ofString "BadCode") 244), some (Value.builtin "Exception.__new__"), some (Value.bool true)] }
noncomputable def oA45 (P : Params) : Obj := { cls := Value.type "super", data := Data.fields #[Value.ref 44, Value.ref 44, Value.ref 44] }
noncomputable def oA46 (P : Params) : Obj := { cls := Value.type "builtin_function_or_method", data := Data.fields #[Value.builtin "object.__init_subclass__", Value.ref 44] }
noncomputable def oP12 (P : Params) : Obj := { cls := Value.none, data := Data.fields #[] }
noncomputable def oC3 (P : Params) : Obj := { cls := Value.type "dict", data := Data.dict #[{ hash := PyData.keyHash P (Str.ofString "__name__"), key := Value.str (Str.ofString "__name__") 165, val := Value.str (Str.ofString "law_sa0224_01") 685 }, { hash := PyData.keyHash P (Str.ofString "__doc__"), key := Value.str (Str.ofString "__doc__") 166, val := Value.none }, { hash := PyData.keyHash P (Str.ofString "__package__"), key := Value.str (Str.ofString "__package__") 167, val := Value.none }, { hash := PyData.keyHash P (Str.ofString "__loader__"), key := Value.str (Str.ofString "__loader__") 168, val := Value.builtin "__main__.__loader__#opaque" }, { hash := PyData.keyHash P (Str.ofString "__spec__"), key := Value.str (Str.ofString "__spec__") 169, val := Value.none }, { hash := PyData.keyHash P (Str.ofString "__annotations__"), key := Value.str (Str.ofString "__annotations__") 170, val := Value.ref 6 }, { hash := PyData.keyHash P (Str.ofString "__builtins__"), key := Value.str (Str.ofString "__builtins__") 171, val := Value.ref 4 }, { hash := PyData.keyHash P (Str.ofString "__file__"), key := Value.str (Str.ofString "__file__") 173, val := Value.str (Str.ofString "/claim/cut.py") 172 }, { hash := PyData.keyHash P (Str.ofString "__cached__"), key := Value.str (Str.ofString "__cached__") 174, val := Value.none }, { hash := PyData.keyHash P (Str.ofString "OP_BR"), key := Value.str (Str.ofString "OP_BR") 188, val := Value.int 56 187 }, { hash := PyData.keyHash P (Str.ofString "OP_SWITCH"), key := Value.str (Str.ofString "OP_SWITCH") 190, val := Value.int 69 189 }, { hash := PyData.keyHash P (Str.ofString "OP_CALLVIRT"), key := Value.str (Str.ofString "OP_CALLVIRT") 192, val := Value.int 111 191 }, { hash := PyData.keyHash P (Str.ofString "OP_LDELEMA"), key := Value.str (Str.ofString "OP_LDELEMA") 194, val := Value.int 143 193 }, { hash := PyData.keyHash P (Str.ofString "OP_LEAVE"), key := Value.str (Str.ofString "OP_LEAVE") 196, val := Value.int 221 195 }, { hash := PyData.keyHash P (Str.ofString "OP_CONSTRAINED"), key := Value.str (Str.ofString "OP_CONSTRAINED") 198, val := Value.int 65046 197 }, { hash := PyData.keyHash P (Str.ofString "OP_READONLY"), key := Value.str (Str.ofString "OP_READONLY") 200, val := Value.int 65054 199 }, { hash := PyData.keyHash P (Str.ofString "EC_FILTER"), key := Value.str (Str.ofString "EC_FILTER") 202, val := Value.int 1 201 }, { hash := PyData.keyHash P (Str.ofString "RuneError"), key := Value.str (Str.ofString "RuneError") 235, val := Value.ref 31 }, { hash := PyData.keyHash P (Str.ofString "BadCode"), key := Value.str (Str.ofString "BadCode") 251, val := Value.ref 44 }, { hash := PyData.keyHash P (Str.ofString "SO_NONE"), key := Value.str (Str.ofString "SO_NONE") 255, val := Value.int 0 254 }, { hash := PyData.keyHash P (Str.ofString "SO_I4"), key := Value.str (Str.ofString "SO_I4") 257, val := Value.int 1 256 }, { hash := PyData.keyHash P (Str.ofString "SO_I8"), key := Value.str (Str.ofString "SO_I8") 259, val := Value.int 2 258 }, { hash := PyData.keyHash P (Str.ofString "SO_ARG"), key := Value.str (Str.ofString "SO_ARG") 261, val := Value.int 3 260 }, { hash := PyData.keyHash P (Str.ofString "SO_LOCAL"), key := Value.str (Str.ofString "SO_LOCAL") 263, val := Value.int 4 262 }, { hash := PyData.keyHash P (Str.ofString "SO_BRANCH"), key := Value.str (Str.ofString "SO_BRANCH") 265, val := Value.int 5 264 }, { hash := PyData.keyHash P (Str.ofString "SO_SWITCH"), key := Value.str (Str.ofString "SO_SWITCH") 267, val := Value.int 6 266 }, { hash := PyData.keyHash P (Str.ofString "SO_KIND"), key := Value.str (Str.ofString "SO_KIND") 269, val := Value.int 7 268 }, { hash := PyData.keyHash P (Str.ofString "SO_FIELD"), key := Value.str (Str.ofString "SO_FIELD") 271, val := Value.int 8 270 }, { hash := PyData.keyHash P (Str.ofString "SO_METHOD"), key := Value.str (Str.ofString "SO_METHOD") 273, val := Value.int 9 272 }, { hash := PyData.keyHash P (Str.ofString "SO_TEXT"), key := Value.str (Str.ofString "SO_TEXT") 275, val := Value.int 10 274 }, { hash := PyData.keyHash P (Str.ofString "SO_TOKEN"), key := Value.str (Str.ofString "SO_TOKEN") 277, val := Value.int 11 276 }, { hash := PyData.keyHash P (Str.ofString "OP_SORT"), key := Value.str (Str.ofString "OP_SORT") 530, val := Value.ref 47 }, { hash := PyData.keyHash P (Str.ofString "is_branch"), key := Value.str (Str.ofString "is_branch") 537, val := Value.ref 61 }, { hash := PyData.keyHash P (Str.ofString "prefix_goal"), key := Value.str (Str.ofString "prefix_goal") 544, val := Value.ref 68 }, { hash := PyData.keyHash P (Str.ofString "clause_edges"), key := Value.str (Str.ofString "clause_edges") 553, val := Value.ref 75 }, { hash := PyData.keyHash P (Str.ofString "check_edges"), key := Value.str (Str.ofString "check_edges") 565, val := Value.ref 82 }, { hash := PyData.keyHash P (Str.ofString "new_places"), key := Value.str (Str.ofString "new_places") 575, val := Value.ref 89 }, { hash := PyData.keyHash P (Str.ofString "move_targets"), key := Value.str (Str.ofString "move_targets") 585, val := Value.ref 96 }, { hash := PyData.keyHash P (Str.ofString "move_clause"), key := Value.str (Str.ofString "move_clause") 594, val := Value.ref 103 }, { hash := PyData.keyHash P (Str.ofString "keep_only"), key := Value.str (Str.ofString "keep_only") 608, val := Value.ref 110 }, { hash := PyData.keyHash P (Str.ofString "region_key"), key := Value.str (Str.ofString "region_key") 619, val := Value.ref 117 }, { hash := PyData.keyHash P (Str.ofString "chain_end"), key := Value.str (Str.ofString "chain_end") 632, val := Value.ref 124 }, { hash := PyData.keyHash P (Str.ofString "checked_goal"), key := Value.str (Str.ofString "checked_goal") 641, val := Value.ref 131 }, { hash := PyData.keyHash P (Str.ofString "thread_one"), key := Value.str (Str.ofString "thread_one") 653, val := Value.ref 138 }, { hash := PyData.keyHash P (Str.ofString "is_edge"), key := Value.str (Str.ofString "is_edge") 662, val := Value.ref 145 }, { hash := PyData.keyHash P (Str.ofString "thread_in"), key := Value.str (Str.ofString "thread_in") 671, val := Value.ref 152 }, { hash := PyData.keyHash P (Str.ofString "thread_round"), key := Value.str (Str.ofString "thread_round") 684, val := Value.ref 159 }, { hash := PyData.keyHash P (Str.ofString "_law_goal"), key := Value.str (Str.ofString "_law_goal") 694, val := Value.ref 166 }, { hash := PyData.keyHash P (Str.ofString "_law_row"), key := Value.str (Str.ofString "_law_row") 700, val := Value.ref 171 }, { hash := PyData.keyHash P (Str.ofString "_law_clauses"), key := Value.str (Str.ofString "_law_clauses") 716, val := Value.ref 178 }, { hash := PyData.keyHash P (Str.ofString "_law_goals"), key := Value.str (Str.ofString "_law_goals") 723, val := Value.ref 185 }, { hash := PyData.keyHash P (Str.ofString "_law_edges"), key := Value.str (Str.ofString "_law_edges") 732, val := Value.ref 192 }, { hash := PyData.keyHash P (Str.ofString "_law_good"), key := Value.str (Str.ofString "_law_good") 744, val := Value.ref 199 }, { hash := PyData.keyHash P (Str.ofString "_law_parts"), key := Value.str (Str.ofString "_law_parts") 750, val := Value.ref 204 }, { hash := PyData.keyHash P (Str.ofString "_law_behind"), key := Value.str (Str.ofString "_law_behind") 756, val := Value.ref 209 }, { hash := PyData.keyHash P (Str.ofString "_law_end"), key := Value.str (Str.ofString "_law_end") 770, val := Value.ref 216 }, { hash := PyData.keyHash P (Str.ofString "_law_round"), key := Value.str (Str.ofString "_law_round") 776, val := Value.ref 221 }, { hash := PyData.keyHash P (Str.ofString "_law_threaded"), key := Value.str (Str.ofString "_law_threaded") 782, val := Value.ref 226 }, { hash := PyData.keyHash P (Str.ofString "law"), key := Value.str (Str.ofString "law") 788, val := Value.ref 231 }] 59 }
-- the table of sorts, told by the program's own statement
noncomputable def tabKV : List (Int × Str) := match stmtAt 24 with
  | .Assign _ (.Dict ks vs _) _ => (ks.zip vs).map fun x => match x with | (some (.Constant (.int k) _ _), .Name n _) => (k, n) | _ => (0, "")
  | _ => []
noncomputable def soNames : List Str := ((pw.main.body.drop 12).take 12).map fun st => match st with | .Assign [.Name x _] _ _ => x | _ => ""
noncomputable def valOfN (n : Str) : Value := match soNames.findIdx? (· == n) with
  | some i => .int i (254 + 2 * i)
  | none => .none
noncomputable def tabE : List DictEntry := tabKV.zipIdx.map fun x => ⟨hashInt x.1.1, .int x.1.1 (if x.2 < 119 then 278 + 2 * x.2 else 397 + x.2), valOfN x.1.2⟩
noncomputable def tabO (i : Nat) (P : Params) : Obj :=
  let es := if i = 47 then tabE else (tabE.drop (17 * (i - 47))).take 17
  { cls := .type "dict", data := .dict es.toArray es.length }
noncomputable def mkBT (os : List Obj) : BT := os.zipIdx.foldl (fun t x => t.ins x.2 x.1) .nil
noncomputable def lP (P : Params) : List Obj := [boot_o_0 P, boot_o_1 P, boot_o_2 P, boot_o_3 P, boot_o_4 P, boot_o_5 P, boot_o_6 P, boot_o_7 P, boot_o_8 P, boot_o_9 P, boot_o_10 P, oA11 P, oP12 P, oA13 P, oA14 P]
noncomputable def lA (P : Params) : List Obj := [boot_o_0 P, boot_o_1 P, oA2 P, oA3 P, boot_o_4 P, boot_o_5 P, boot_o_6 P, boot_o_7 P, boot_o_8 P, boot_o_9 P, boot_o_10 P, oA11 P, oA12 P, oA13 P, oA14 P, oA15 P, oA16 P, oA17 P, oA18 P, oA19 P, oA20 P, oA21 P, oA22 P, oA23 P, oA24 P, oA25 P, oA26 P, oA27 P, oA28 P, oA29 P, oA30 P, oA31 P, oA32 P, oA33 P, oA34 P, oA35 P, oA36 P, oA37 P, oA38 P, oA39 P, oA40 P, oA41 P, oA42 P, oA43 P, oA44 P, oA45 P, oA46 P]
noncomputable def lB (P : Params) : List Obj := [boot_o_0 P, boot_o_1 P, oA2 P, oB3 P, boot_o_4 P, boot_o_5 P, boot_o_6 P, boot_o_7 P, boot_o_8 P, boot_o_9 P, boot_o_10 P, oA11 P, oA12 P, oA13 P, oA14 P, oA15 P, oA16 P, oA17 P, oA18 P, oA19 P, oA20 P, oA21 P, oA22 P, oA23 P, oA24 P, oA25 P, oA26 P, oA27 P, oA28 P, oA29 P, oA30 P, oA31 P, oA32 P, oA33 P, oA34 P, oA35 P, oA36 P, oA37 P, oA38 P, oA39 P, oA40 P, oA41 P, oA42 P, oA43 P, oA44 P, oA45 P, oA46 P, tabO 47 P, tabO 48 P, tabO 49 P, tabO 50 P, tabO 51 P, tabO 52 P, tabO 53 P, tabO 54 P]
noncomputable def l0 (P : Params) : List Obj := (boot_heap P).objs.toList
noncomputable def stT (l : Params → List Obj) (n toks : Nat) (w : World) (os : OsState) : SharedT := ⟨mkBT (l w.params), n, {}, #[], {}, toks, os⟩
noncomputable def bodyW : List Stmt := behindTheImports pw
noncomputable def envW : Env := { scope := pw.main.scope, locals := mainNs, globals := mainNs, cells := [], code := .ref 13, frame := some 14 }
noncomputable def cdW : Code := .body bodyW envW
noncomputable abbrev p0 : Pos := ⟨0, 0, 0, 0⟩
noncomputable def annW (w : World) : Option Value := (boot_heap w.params).nsMap mainGlobals "__annotations__"
-- the library's twins: topGo 15667345088766844465, segRunT 10110043849684766642, openSeen 4187177175401517315
noncomputable abbrev tbT := PySem.W.Fast.tw14364793385576792824
noncomputable abbrev segT := PySem.W.Fast.tw10110043849684766642
theorem piecePre (w : World) (os : OsState) : PySem.W.Fast.tw15667345088766844465 tbT pw w 11 (annW w) 12 (stT l0 11 181 w os).abs (topStub pw) = some ((stT lP 15 187 w os).abs, ⟨PySem.W.Fast.tw11892475500146522536 tbT (.body bodyW envW), cdW, p0, [topFrame p0]⟩) := by kernel_rfl
theorem pieceBlock (w : World) (os : OsState) : segT tbT pw w 11 (annW w) 1 1 (stT lP 15 187 w os) (blockOf bodyW envW cdW p0 [topFrame p0]) = some (.next, stT lP 15 187 w os, cdW, p0) := by kernel_rfl
theorem pieceA (w : World) (os : OsState) : segT tbT pw w 11 (annW w) 1 660 (stT lP 15 187 w os) (piecesOf (bodyW.take 24) envW cdW p0 [topFrame p0]) = some (.next, stT lA 47 278 w os, cdW, ⟨29, 0, 29, 8⟩) := by kernel_rfl
end
section
set_option maxRecDepth 100000
set_option linter.unusedVariables false
noncomputable abbrev SV := Sem Value
noncomputable abbrev Item := Option SV × SV
noncomputable abbrev LoopSt := Option Addr × List (SV × SV)
noncomputable def finD : Option Addr → Sem Value := fun m => match m with
  | some d => pure (.ref d)
  | none => newDict
noncomputable def ddP : {q : (Item → LoopSt → Sem (ForInStep LoopSt)) × (LoopSt → Sem Value) // ∀ items : List Item, dictDisplay items = (forIn items ((none, []) : LoopSt) q.1).bind q.2} := ⟨(_, _), fun items => rfl⟩
noncomputable def flP : {fl : List (SV × SV) → Option Addr → Sem (Option Addr) // ∀ (m : Option Addr) (run : List (SV × SV)), ddP.1.2 (m, run) = (fl run m).bind finD} := ⟨_, fun m run => rfl⟩
theorem fl_step (k v : SV) (m : Option Addr) (run : List (SV × SV)) : ddP.1.1 (some k, v) (m, run) = if (run ++ [(k, v)]).length == 17 then (flP.1 (run ++ [(k, v)]) m).bind fun m => .pure (.yield (m, [])) else .pure (.yield (m, run ++ [(k, v)])) := by rfl
end
section
set_option maxRecDepth 100000
set_option linter.unusedVariables false
noncomputable abbrev PR := SV × SV
noncomputable def som (p : PR) : Item := (some p.1, p.2)
theorem gather (m : Option Addr) : ∀ (c run : List PR) (rest : List Item), run.length + c.length = 17 → c ≠ [] → forIn (c.map som ++ rest) ((m, run) : LoopSt) ddP.1.1 = (flP.1 (run ++ c) m).bind fun m' => forIn rest ((m', []) : LoopSt) ddP.1.1
  | [], _, _, _, h => absurd rfl h
  | [p], run, rest, h, _ => by
    rw [List.map_cons, List.map_nil, List.cons_append, List.nil_append, List.forIn_cons]
    show (ddP.1.1 (some p.1, p.2) (m, run)).bind _ = _
    rw [fl_step, if_pos (by rw [List.length_append]; simpa using h), PySem.Sem.bind_assoc]
    rfl
  | p :: p2 :: c, run, rest, h, _ => by
    rw [List.map_cons, List.cons_append, List.forIn_cons]
    show (ddP.1.1 (some p.1, p.2) (m, run)).bind _ = _
    have hn : ¬ ((run ++ [(p.1, p.2)]).length == 17) = true := by
      rw [List.length_append, beq_iff_eq]
      simp only [List.length_cons, List.length_nil] at h ⊢
      omega
    rw [fl_step, if_neg hn]
    show forIn ((p2 :: c).map som ++ rest) ((m, run ++ [(p.1, p.2)]) : LoopSt) ddP.1.1 = _
    rw [gather m (p2 :: c) (run ++ [(p.1, p.2)]) rest (by rw [List.length_append]; simp only [List.length_cons, List.length_nil] at h ⊢; omega) (by simp), List.append_assoc]
    rfl
theorem gatherEnd (m : Option Addr) : ∀ (c run : List PR), run.length + c.length < 17 → forIn (c.map som) ((m, run) : LoopSt) ddP.1.1 = .pure (m, run ++ c)
  | [], run, _ => by rw [List.append_nil]; rfl
  | p :: c, run, h => by
    rw [List.map_cons, List.forIn_cons]
    show (ddP.1.1 (some p.1, p.2) (m, run)).bind _ = _
    have hn : ¬ ((run ++ [(p.1, p.2)]).length == 17) = true := by
      rw [List.length_append, beq_iff_eq]
      simp only [List.length_cons, List.length_nil] at h ⊢
      omega
    rw [fl_step, if_neg hn]
    show forIn (c.map som) ((m, run ++ [(p.1, p.2)]) : LoopSt) ddP.1.1 = _
    rw [gatherEnd m c (run ++ [(p.1, p.2)]) (by rw [List.length_append]; simp only [List.length_cons, List.length_nil] at h ⊢; omega), List.append_assoc]
    rfl
noncomputable def chainD (last : List PR) : List (List PR) → Option Addr → Sem Value
  | [], m => (flP.1 last m).bind finD
  | c :: cs, m => (flP.1 c m).bind fun m' => chainD last cs m'
theorem dchain_eq (last : List PR) (hl : last.length < 17) : ∀ (cs : List (List PR)) (m : Option Addr), cs.all (fun c => c.length == 17) = true → (forIn (cs.flatten.map som ++ last.map som) ((m, []) : LoopSt) ddP.1.1).bind ddP.1.2 = chainD last cs m
  | [], m, _ => by
    show (forIn (last.map som) ((m, []) : LoopSt) ddP.1.1).bind ddP.1.2 = _
    rw [gatherEnd m last [] (by simpa using hl)]
    exact flP.2 m last
  | c :: cs, m, h => by
    rw [List.all_cons, Bool.and_eq_true, beq_iff_eq] at h
    rw [List.flatten_cons, List.map_append, List.append_assoc, gather m c [] _ (by simpa using h.1) (by intro q; rw [q] at h; cases h.1), PySem.Sem.bind_assoc]
    show (flP.1 c m).bind _ = (flP.1 c m).bind _
    congr 1
    funext m'
    exact dchain_eq last hl cs m' h.2
noncomputable def resA : Option Addr → Flow
  | some d => .ret (.ref d)
  | none => .next
noncomputable abbrev pieceD (X : Sem (Option Addr)) (c : Code) (p : Pos) (B : List Frame) : Thread := ⟨X.wrap (fun a => .pure (.done (resA a))) deadEnd id id, c, p, B⟩
section
variable {tb : String → Option Builtin} {p : Program} {w : World} {n₀ : Nat} {ann : Option Value} {q : Pos} {last c : List PR} {cs : List (List PR)} {m : Option Addr} {KV : Value → Sem Fin} {H : Value → Sem Fin} {cd : Code} {pos pos' : Pos} {n N : Nat} {s s' r : Shared} {d : Addr}
theorem link (h : segRun tb p w n₀ ann 1 n s (pieceD (flP.1 c m) cd pos [topFrame q]) = some (.ret (.ref d), s', cd, pos'))
    (k : topRun tb p w n₀ ann N s' ⟨(chainD last cs (some d)).wrap KV H id id, cd, pos', [topFrame q]⟩ = some r) : topRun tb p w n₀ ann (n + N) s ⟨(chainD last (c :: cs) m).wrap KV H id id, cd, pos, [topFrame q]⟩ = some r := by
  obtain ⟨a, ha, hN⟩ := seg_top (res := resA) (K' := fun a => (chainD last cs a).wrap KV H id id) (H' := H) (B := [topFrame q]) rfl n s (pieceD (flP.1 c m) cd pos [topFrame q])
    ⟨(flP.1 c m).wrap (fun a => (chainD last cs a).wrap KV H id id) H id id, cd, pos, [topFrame q]⟩ _ _ _ _ ⟨rfl, rfl, .inl ⟨rfl, rfl, _, rfl, rfl⟩⟩ h
  obtain rfl : a = some d := by
    cases a with
    | none => cases ha
    | some d' => cases ha; rfl
  have := hN N r k
  show topRun tb p w n₀ ann (n + N) s ⟨((flP.1 c m).bind fun m' => chainD last cs m').wrap KV H id id, cd, pos, [topFrame q]⟩ = some r
  rw [PySem.Sem.bind_eq_wrap, PySem.Sem.wrap_wrap]
  exact this
variable {env : Env} {st : Stmt} {rest : List Stmt} {Z : Value → Sem Flow} {p1 p2 : Pos}
noncomputable abbrev kRest (rest : List Stmt) (env : Env) : Flow → Sem Fin := fun f => match f with | .next => (execs rest env).wrap doneF (leaveH env) id id | f => doneF f
theorem lastLink (h : segRun tb p w n₀ ann 1 n s ⟨(((flP.1 last m).bind finD).bind Z).wrap doneF deadEnd id id, cd, pos, [topFrame q]⟩ = some (.next, s', cd, pos'))
    (k : topRun tb p w n₀ ann N s' (restOf rest env cd pos' [topFrame q]) = some r) :
    topRun tb p w n₀ ann (n + N) s ⟨(chainD last [] m).wrap (fun v => (Z v).wrap (kRest rest env) (leaveH env) id id) (leaveH env) id id, cd, pos, [topFrame q]⟩ = some r := by
  obtain ⟨a, ha, hN⟩ := seg_top (res := id) (K' := kRest rest env) (H' := leaveH env) (B := [topFrame q]) rfl n s ⟨(((flP.1 last m).bind finD).bind Z).wrap doneF deadEnd id id, cd, pos, [topFrame q]⟩
    ⟨(((flP.1 last m).bind finD).bind Z).wrap (kRest rest env) (leaveH env) id id, cd, pos, [topFrame q]⟩ _ _ _ _ ⟨rfl, rfl, .inl ⟨rfl, rfl, _, rfl, rfl⟩⟩ h
  obtain rfl : a = .next := ha
  have := hN N r k
  rw [PySem.Sem.bind_eq_wrap ((flP.1 last m).bind finD) Z, PySem.Sem.wrap_wrap] at this
  exact this
theorem firstLink (hst : exec st env = (standAt p1).bind fun _ => ((standAt p2).bind fun _ => chainD last cs none).bind Z)
    (h : segRun tb p w n₀ ann 1 n s ⟨((standAt p1).bind fun _ => standAt p2).wrap (fun _ => doneF .next) deadEnd id id, cd, pos, [topFrame q]⟩ = some (.next, s', cd, pos'))
    (k : topRun tb p w n₀ ann N s' ⟨(chainD last cs none).wrap (fun v => (Z v).wrap (kRest rest env) (leaveH env) id id) (leaveH env) id id, cd, pos', [topFrame q]⟩ = some r) :
    topRun tb p w n₀ ann (n + N) s (restOf (st :: rest) env cd pos [topFrame q]) = some r := by
  obtain ⟨a, ha, hN⟩ := seg_top (res := fun _ : Unit => Flow.next) (K' := fun _ => (chainD last cs none).wrap (fun v => (Z v).wrap (kRest rest env) (leaveH env) id id) (leaveH env) id id) (H' := leaveH env) (B := [topFrame q]) rfl n s
    ⟨((standAt p1).bind fun _ => standAt p2).wrap (fun _ => doneF .next) deadEnd id id, cd, pos, [topFrame q]⟩
    ⟨((standAt p1).bind fun _ => standAt p2).wrap (fun _ => (chainD last cs none).wrap (fun v => (Z v).wrap (kRest rest env) (leaveH env) id id) (leaveH env) id id) (leaveH env) id id, cd, pos, [topFrame q]⟩ _ _ _ _ ⟨rfl, rfl, .inl ⟨rfl, rfl, _, rfl, rfl⟩⟩ h
  have := hN N r k
  unfold restOf
  rw [PySem.execs_cons_wrap, hst]
  have e : ((chainD last cs none).bind Z).wrap (kRest rest env) (leaveH env) id id = (chainD last cs none).wrap (fun v => (Z v).wrap (kRest rest env) (leaveH env) id id) (leaveH env) id id := by
    rw [PySem.Sem.bind_eq_wrap, PySem.Sem.wrap_wrap]; rfl
  rw [← e] at this
  exact this
end
end
section
set_option maxRecDepth 100000
set_option linter.unusedVariables false
-- the table's statement taken apart
noncomputable def dX : Str := match stmtAt 24 with | .Assign [.Name x _] _ _ => x | _ => ""
noncomputable def dXp : Pos := match stmtAt 24 with | .Assign [.Name _ p] _ _ => p | _ => p0
noncomputable def dP : Pos := match stmtAt 24 with | .Assign _ _ p => p | _ => p0
noncomputable def dKs : List (Option Expr) := match stmtAt 24 with | .Assign _ (.Dict ks _ _) _ => ks | _ => []
noncomputable def dVs : List Expr := match stmtAt 24 with | .Assign _ (.Dict _ vs _) _ => vs | _ => []
noncomputable def dDp : Pos := match stmtAt 24 with | .Assign _ (.Dict _ _ p) _ => p | _ => p0
theorem tab_st : (bodyW.drop 24).take 1 = [.Assign [.Name dX dXp] (.Dict dKs dVs dDp) dP] := by kernel_rfl
noncomputable def dItems : List Item := (evalEachOpt dKs envW).zip ((evalEach dVs envW).map fun v => (do let x ← v; standAt dDp; pure x))
noncomputable def dPairs : List PR := dItems.map fun i => (i.1.getD (Sem.pure .none), i.2)
theorem all_some : dItems.all (fun i => i.1.isSome) = true := by kernel_rfl
theorem pairs_len : dPairs.length = 126 := by kernel_rfl
theorem items_eq : dItems = dPairs.map som := by
  unfold dPairs
  rw [List.map_map]
  have h := List.all_eq_true.mp all_some
  generalize dItems = l at h
  induction l with
  | nil => rfl
  | cons i l ih =>
    obtain ⟨v, hv⟩ := Option.isSome_iff_exists.mp (h i (by simp))
    rw [List.map_cons, ← ih fun j hj => h j (by simp [hj])]
    congr 1
    obtain ⟨a, b⟩ := i
    dsimp only at hv
    subst hv; rfl
noncomputable def chunk (j : Nat) : List PR := (dPairs.drop (17 * j)).take 17
noncomputable def chunks : List (List PR) := [chunk 0, chunk 1, chunk 2, chunk 3, chunk 4, chunk 5, chunk 6]
theorem pairs_cut : dPairs = chunks.flatten ++ dPairs.drop 119 := by
  have step : ∀ j, dPairs.drop (17 * j) = chunk j ++ dPairs.drop (17 * (j + 1)) := fun j => by
    unfold chunk
    rw [Nat.mul_add, Nat.mul_one, ← List.drop_drop, List.take_append_drop]
  have h := step 0
  rw [step 1, step 2, step 3, step 4, step 5, step 6] at h
  show dPairs = [chunk 0, chunk 1, chunk 2, chunk 3, chunk 4, chunk 5, chunk 6].flatten ++ _
  simp only [List.flatten_cons, List.flatten_nil, List.append_nil, List.append_assoc]
  exact h
theorem chunk_len (j : Nat) (h : 17 + 17 * j ≤ 126) : (chunk j).length = 17 := by
  unfold chunk
  rw [List.length_take, List.length_drop, pairs_len]
  exact Nat.min_eq_left (Nat.le_sub_of_add_le h)
theorem chunks_len : chunks.all (fun c => c.length == 17) = true := by
  unfold chunks
  simp only [List.all_cons, List.all_nil, chunk_len _ (by decide : 17 + 17 * 0 ≤ 126), chunk_len _ (by decide : 17 + 17 * 1 ≤ 126), chunk_len _ (by decide : 17 + 17 * 2 ≤ 126), chunk_len _ (by decide : 17 + 17 * 3 ≤ 126), chunk_len _ (by decide : 17 + 17 * 4 ≤ 126), chunk_len _ (by decide : 17 + 17 * 5 ≤ 126), chunk_len _ (by decide : 17 + 17 * 6 ≤ 126)]
  decide
noncomputable abbrev lastC : List PR := dPairs.drop 119
theorem last_len : lastC.length < 17 := by unfold lastC; rw [List.length_drop, pairs_len]; decide
theorem dict_chain : dictDisplay dItems = chainD lastC chunks none := by
  rw [ddP.2 dItems, items_eq]
  have h := dchain_eq lastC last_len chunks none chunks_len
  rw [← List.map_append, ← pairs_cut] at h
  exact h
noncomputable def tabZ : Value → Sem Flow := fun v => (standAt dXp).bind fun _ => (bindName envW dX v).bind fun _ => .pure .next
theorem tab_exec : exec (.Assign [.Name dX dXp] (.Dict dKs dVs dDp) dP) envW = (standAt dP).bind fun _ => ((standAt dDp).bind fun _ => chainD lastC chunks none).bind tabZ := by
  rw [exec_Assign_Name envW dX dXp (.Dict dKs dVs dDp) dP rfl, arm_eval_Dict, ← dict_chain]
  rfl
end
section
set_option maxRecDepth 100000
set_option linter.unusedVariables false
noncomputable abbrev rowW : String := "special-get-raises"
noncomputable def tabM (j : Nat) : Obj := { cls := .type "dict", data := .dict (tabE.take (17 * j)).toArray (17 * j) }
/-- the objects when j runs of the table are laid -/
noncomputable def lT (j : Nat) (P : Params) : List Obj := lA P ++ (tabM j :: ((List.range (j - 1)).map fun i => tabO (48 + i) P))
theorem pX (w : World) (os : OsState) : segT tbT pw w 11 (annW w) 1 9 (stT lA 47 278 w os) ⟨((standAt dP).bind fun _ => standAt dDp).wrap (fun _ => doneF .next) deadEnd id id, cdW, ⟨29, 0, 29, 8⟩, [topFrame p0]⟩ = some (.next, stT lA 47 278 w os, cdW, dDp) := by kernel_rfl
theorem pT0f (w : World) (os : OsState) : segT tbT pw (w.withFollow rowW false) 11 (annW w) 1 700 (stT lA 47 278 w os) (pieceD (flP.1 (chunk 0) none) cdW dDp [topFrame p0]) = some (.ret (.ref 47), stT (lT 1) 48 312 w os, cdW, dDp) := by kernel_rfl
theorem pT1f (w : World) (os : OsState) : segT tbT pw (w.withFollow rowW false) 11 (annW w) 1 700 (stT (lT 1) 48 312 w os) (pieceD (flP.1 (chunk 1) (some 47)) cdW dDp [topFrame p0]) = some (.ret (.ref 47), stT (lT 2) 49 346 w os, cdW, dDp) := by kernel_rfl
theorem pT2f (w : World) (os : OsState) : segT tbT pw (w.withFollow rowW false) 11 (annW w) 1 700 (stT (lT 2) 49 346 w os) (pieceD (flP.1 (chunk 2) (some 47)) cdW dDp [topFrame p0]) = some (.ret (.ref 47), stT (lT 3) 50 380 w os, cdW, dDp) := by kernel_rfl
theorem pT3f (w : World) (os : OsState) : segT tbT pw (w.withFollow rowW false) 11 (annW w) 1 700 (stT (lT 3) 50 380 w os) (pieceD (flP.1 (chunk 3) (some 47)) cdW dDp [topFrame p0]) = some (.ret (.ref 47), stT (lT 4) 51 414 w os, cdW, dDp) := by kernel_rfl
theorem pT4f (w : World) (os : OsState) : segT tbT pw (w.withFollow rowW false) 11 (annW w) 1 700 (stT (lT 4) 51 414 w os) (pieceD (flP.1 (chunk 4) (some 47)) cdW dDp [topFrame p0]) = some (.ret (.ref 47), stT (lT 5) 52 448 w os, cdW, dDp) := by kernel_rfl
theorem pT5f (w : World) (os : OsState) : segT tbT pw (w.withFollow rowW false) 11 (annW w) 1 700 (stT (lT 5) 52 448 w os) (pieceD (flP.1 (chunk 5) (some 47)) cdW dDp [topFrame p0]) = some (.ret (.ref 47), stT (lT 6) 53 482 w os, cdW, dDp) := by kernel_rfl
theorem pT6f (w : World) (os : OsState) : segT tbT pw (w.withFollow rowW false) 11 (annW w) 1 700 (stT (lT 6) 53 482 w os) (pieceD (flP.1 (chunk 6) (some 47)) cdW dDp [topFrame p0]) = some (.ret (.ref 47), stT (lT 7) 54 516 w os, cdW, dDp) := by kernel_rfl
theorem pT7f (w : World) (os : OsState) : segT tbT pw (w.withFollow rowW false) 11 (annW w) 1 700 (stT (lT 7) 54 516 w os) ⟨(((flP.1 lastC (some 47)).bind finD).bind tabZ).wrap doneF deadEnd id id, cdW, dDp, [topFrame p0]⟩ = some (.next, stT lB 55 531 w os, cdW, ⟨30, 0, 30, 7⟩) := by kernel_rfl
theorem pT0t (w : World) (os : OsState) : segT tbT pw (w.withFollow rowW true) 11 (annW w) 1 700 (stT lA 47 278 w os) (pieceD (flP.1 (chunk 0) none) cdW dDp [topFrame p0]) = some (.ret (.ref 47), stT (lT 1) 48 312 w os, cdW, dDp) := by kernel_rfl
theorem pT1t (w : World) (os : OsState) : segT tbT pw (w.withFollow rowW true) 11 (annW w) 1 700 (stT (lT 1) 48 312 w os) (pieceD (flP.1 (chunk 1) (some 47)) cdW dDp [topFrame p0]) = some (.ret (.ref 47), stT (lT 2) 49 346 w os, cdW, dDp) := by kernel_rfl
theorem pT2t (w : World) (os : OsState) : segT tbT pw (w.withFollow rowW true) 11 (annW w) 1 700 (stT (lT 2) 49 346 w os) (pieceD (flP.1 (chunk 2) (some 47)) cdW dDp [topFrame p0]) = some (.ret (.ref 47), stT (lT 3) 50 380 w os, cdW, dDp) := by kernel_rfl
theorem pT3t (w : World) (os : OsState) : segT tbT pw (w.withFollow rowW true) 11 (annW w) 1 700 (stT (lT 3) 50 380 w os) (pieceD (flP.1 (chunk 3) (some 47)) cdW dDp [topFrame p0]) = some (.ret (.ref 47), stT (lT 4) 51 414 w os, cdW, dDp) := by kernel_rfl
theorem pT4t (w : World) (os : OsState) : segT tbT pw (w.withFollow rowW true) 11 (annW w) 1 700 (stT (lT 4) 51 414 w os) (pieceD (flP.1 (chunk 4) (some 47)) cdW dDp [topFrame p0]) = some (.ret (.ref 47), stT (lT 5) 52 448 w os, cdW, dDp) := by kernel_rfl
theorem pT5t (w : World) (os : OsState) : segT tbT pw (w.withFollow rowW true) 11 (annW w) 1 700 (stT (lT 5) 52 448 w os) (pieceD (flP.1 (chunk 5) (some 47)) cdW dDp [topFrame p0]) = some (.ret (.ref 47), stT (lT 6) 53 482 w os, cdW, dDp) := by kernel_rfl
theorem pT6t (w : World) (os : OsState) : segT tbT pw (w.withFollow rowW true) 11 (annW w) 1 700 (stT (lT 6) 53 482 w os) (pieceD (flP.1 (chunk 6) (some 47)) cdW dDp [topFrame p0]) = some (.ret (.ref 47), stT (lT 7) 54 516 w os, cdW, dDp) := by kernel_rfl
theorem pT7t (w : World) (os : OsState) : segT tbT pw (w.withFollow rowW true) 11 (annW w) 1 700 (stT (lT 7) 54 516 w os) ⟨(((flP.1 lastC (some 47)).bind finD).bind tabZ).wrap doneF deadEnd id id, cdW, dDp, [topFrame p0]⟩ = some (.next, stT lB 55 531 w os, cdW, ⟨30, 0, 30, 7⟩) := by kernel_rfl
end
section
set_option maxRecDepth 100000

noncomputable def keepSt : Stmt → Bool
  | .Assign [.Name x _] _ _ => !(x == ("__name__" : Str))
  | _ => true
noncomputable def qv : Program := { pw with main := { pw.main with body := pw.main.body.filter keepSt } }
noncomputable abbrev XT (s : Shared) : Bool := xlAt qv [] s && recOk (RowW.records PySem.Challenge.rw_sa0224_01.row.toRowW) s
/-- the objects that the walk knows -/
noncomputable def KH (P : Params) : Frag := [(3, oC3 P), (27, oA27 P), (28, oA28 P), (30, oA30 P), (31, oA31 P), (43, oA43 P), (44, oA44 P), (47, tabO 47 P)]
noncomputable def KHas : List Addr := [3, 27, 28, 30, 31, 43, 44, 47]
noncomputable def HK : Hook := kHook KH KHas (fun _ => rfl)
noncomputable abbrev openT := PySem.W.Fast.tw4187177175401517315
noncomputable def looksW (w : World) (s : Shared) : Bool := staticsOk (importedModules pw.main.body) (boot_heap w.params) s.heap && namesBound pw s.heap && gensDone s && laidKept (boot_heap w.params) s.heap
noncomputable def lastW {β : Type} (run : Nat → Shared → Thread → Option Shared) (B : List Frame) (f : Code → Shared → β) (r : Flow × SharedT × Code × Pos) : Option β := match r with
  | (.next, s, c, p) => (run 5 s.abs ⟨doneF .next, c, p, B⟩).map (f c)
  | _ => none
theorem pieceC (w : World) (os : OsState) : (segT tbT pw w 11 (annW w) 1 900 (stT lB 55 531 w os) (piecesOf (bodyW.drop 25) envW cdW ⟨30, 0, 30, 7⟩ [topFrame p0])).bind (lastW (PySem.W.Fast.tw14082659384304107361 tbT pw w 11 (annW w)) [topFrame p0]
    fun c s => (c, looksW w s, openT qv ["OP_SORT"] (importedModules pw.main.body) XT true s, KHas.map s.heap.get?)) = some (cdW, true, openGood qv ["OP_SORT"], (KH w.params).map fun p => some p.2) := by kernel_rfl
end
section
set_option maxRecDepth 100000
theorem chain5 {p : Program} {w : World} {n₀ n0 n1 nA nB nC n5 : Nat} {ann : Option Value} {env : Env} {q pos0 pos1 posA posB posC : Pos} {b g1 g2 g3 : List Stmt} {cd : Code} {S0 S5 : Shared} {s1 s2 sA sB s4 : SharedT} {stub : Thread} (hb : b = g1 ++ (g2 ++ (g3 ++ [])))
    (hp : topGo treeTable p w n₀ ann n0 S0 stub = some (s1.abs, ⟨denote treeTable (.body b env), cd, pos0, [topFrame q]⟩)) (h1 : segRunT treeTable p w n₀ ann 1 n1 s1 (blockOf b env cd pos0 [topFrame q]) = some (.next, s2, cd, pos1))
    (hA : segRunT treeTable p w n₀ ann 1 nA s2 (piecesOf g1 env cd pos1 [topFrame q]) = some (.next, sA, cd, posA)) (hB : ∀ (rest : List Stmt) (N : Nat) (r : Shared), topRun treeTable p w n₀ ann N sB.abs (restOf rest env cd posB [topFrame q]) = some r → topRun treeTable p w n₀ ann (nB + N) sA.abs (restOf (g2 ++ rest) env cd posA [topFrame q]) = some r)
    (hC : segRunT treeTable p w n₀ ann 1 nC sB (piecesOf g3 env cd posB [topFrame q]) = some (.next, s4, cd, posC)) (h5 : topRun treeTable p w n₀ ann n5 s4.abs ⟨doneF .next, cd, posC, [topFrame q]⟩ = some S5) :
    topRun treeTable p w n₀ ann (n0 + (n1 + (nA + (nB + (nC + n5))))) S0 stub = some S5 := by
  have k4 := piece_app (rest := []) (segRun_of hC) (piece_nil h5)
  have k3 := hB _ _ _ k4
  have k2 := piece_app (segRun_of hA) k3
  rw [← hb] at k2
  exact go_top hp (piece_block (segRun_of h1) k2)
theorem left_of {p q : Program} {loose : List Str} {Xt : Shared → Bool} {α : Type} {Yf : Shared → α} {Ya : World → α} {N M n0 : Nat} {H0 : Params → Heap} {d0 : Drawn} {k0 : Nat}
    (hopen : ∀ w : World, (fencedOpening treeTable p w N).map (fun s => (s.heap, s.gens, s.drawn, s.toks)) = some (H0 w.params, Array.mk [], d0, k0)) (hok : ∀ w : World, ((H0 w.params).isNs mainGlobals && (Array.mk [] : Array GenState).size == 0) = true)
    (hn : ∀ w : World, (H0 w.params).objs.size = n0) (hle : M ≤ N)
    (hr : ∀ (w : World) (os : OsState), ∃ s, topRun treeTable p w n0 ((H0 w.params).nsMap mainGlobals "__annotations__") M ⟨H0 w.params, Array.mk [], d0, k0, os⟩ (topStub p) = some s ∧
      (staticsOk (importedModules p.main.body) (H0 w.params) s.heap && namesBound p s.heap && gensDone s && laidKept (H0 w.params) s.heap) = true ∧ openSeen q loose (importedModules p.main.body) Xt true s = openGood q loose ∧ Yf s = Ya w) : LeftO p q loose Xt Yf Ya N := fun w => by
  obtain ⟨⟨hp, g, d, tk, os⟩, e0, hv⟩ := Option.map_eq_some_iff.mp (hopen w)
  simp only [Prod.mk.injEq] at hv
  obtain ⟨rfl, rfl, rfl, rfl⟩ := hv
  obtain ⟨s, hr, h1, h2, h3⟩ := hr w os
  have hr := topRun_mono (N - M) _ _ _ _ hr
  rw [show M + (N - M) = N by omega] at hr
  unfold openEnds
  rw [e0]
  show ((topFrom treeTable p w N _).map _) = _
  unfold topFrom
  simp only [hok w, hn w, hr, Option.bind_some, h1, Option.map_some, h2, h3]
theorem absBoot (w : World) (os : OsState) : (stT l0 11 181 w os).abs = ⟨boot_heap w.params, Array.mk [], boot_drawn, boot_toks, os⟩ := by kernel_rfl
theorem bootOk (w : World) : ((boot_heap w.params).isNs mainGlobals && (Array.mk [] : Array GenState).size == 0) = true := by kernel_rfl
theorem bootN (w : World) : (boot_heap w.params).objs.size = 11 := by kernel_rfl
theorem opensPlain : opening pw = plainProg pw.main.scope.names := by kernel_rfl
theorem fenceNone (s : Shared) : fenceModules? pw s = some s := by kernel_rfl
theorem bodySplit : bodyW = bodyW.take 24 ++ ((bodyW.drop 24).take 1 ++ (bodyW.drop 25 ++ [])) := by
  generalize bodyW = b
  rw [List.append_nil, show b.drop 25 = (b.drop 24).drop 1 by rw [List.drop_drop], List.take_append_drop, List.take_append_drop]
theorem seg_eq : segT tbT = segRunT treeTable := by
  show PySem.W.Fast.tw10110043849684766642 PySem.W.Fast.tw14364793385576792824 = _
  rw [← PySem.W.Fast.te10110043849684766642, ← PySem.W.Fast.te14364793385576792824]
theorem go_eq : PySem.W.Fast.tw15667345088766844465 tbT = topGo treeTable := by
  show PySem.W.Fast.tw15667345088766844465 PySem.W.Fast.tw14364793385576792824 = _
  rw [← PySem.W.Fast.te15667345088766844465, ← PySem.W.Fast.te14364793385576792824]
theorem run_eq : PySem.W.Fast.tw14082659384304107361 tbT = topRun treeTable := by
  show PySem.W.Fast.tw14082659384304107361 PySem.W.Fast.tw14364793385576792824 = _
  rw [← PySem.W.Fast.te14082659384304107361, ← PySem.W.Fast.te14364793385576792824]
theorem den_eq : PySem.W.Fast.tw11892475500146522536 tbT = denote treeTable := by
  show PySem.W.Fast.tw11892475500146522536 PySem.W.Fast.tw14364793385576792824 = _
  rw [← PySem.W.Fast.te11892475500146522536, ← PySem.W.Fast.te14364793385576792824]
theorem open_eq : openT = openSeen := PySem.W.Fast.te4187177175401517315.symm
theorem tab_run (w : World) (os : OsState) (rest : List Stmt) (N : Nat) (r : Shared) (k : topRun treeTable pw w 11 (annW w) N (stT lB 55 531 w os).abs (restOf rest envW cdW ⟨30, 0, 30, 7⟩ [topFrame p0]) = some r) :
    topRun treeTable pw w 11 (annW w) (5609 + N) (stT lA 47 278 w os).abs (restOf ((bodyW.drop 24).take 1 ++ rest) envW cdW ⟨29, 0, 29, 8⟩ [topFrame p0]) = some r := by
  rw [tab_st, show 5609 + N = 9 + (700 + (700 + (700 + (700 + (700 + (700 + (700 + (700 + N)))))))) by omega]
  have e := World.withFollow_self w rowW
  have hx := pX w os
  rw [seg_eq] at hx
  refine firstLink (last := lastC) (cs := chunks) (Z := tabZ) tab_exec (segRun_of hx) ?_
  unfold chunks
  cases hb : w.params.followText rowW with
  | false =>
    rw [hb] at e
    have h0 := pT0f w os
    have h1 := pT1f w os
    have h2 := pT2f w os
    have h3 := pT3f w os
    have h4 := pT4f w os
    have h5 := pT5f w os
    have h6 := pT6f w os
    have h7 := pT7f w os
    rw [e, seg_eq] at h0 h1 h2 h3 h4 h5 h6 h7
    exact link (segRun_of h0) (link (segRun_of h1) (link (segRun_of h2) (link (segRun_of h3) (link (segRun_of h4) (link (segRun_of h5) (link (segRun_of h6) (lastLink (segRun_of h7) k)))))))
  | true =>
    rw [hb] at e
    have h0 := pT0t w os
    have h1 := pT1t w os
    have h2 := pT2t w os
    have h3 := pT3t w os
    have h4 := pT4t w os
    have h5 := pT5t w os
    have h6 := pT6t w os
    have h7 := pT7t w os
    rw [e, seg_eq] at h0 h1 h2 h3 h4 h5 h6 h7
    exact link (segRun_of h0) (link (segRun_of h1) (link (segRun_of h2) (link (segRun_of h3) (link (segRun_of h4) (link (segRun_of h5) (link (segRun_of h6) (lastLink (segRun_of h7) k)))))))
theorem last_of {run : Nat → Shared → Thread → Option Shared} {B : List Frame} {x : Option (Flow × SharedT × Code × Pos)} {β : Type} {f : Code → Shared → β} {v : β} (h : x.bind (lastW run B f) = some v) :
    ∃ s4 c q s5, x = some (.next, s4, c, q) ∧ run 5 s4.abs ⟨doneF .next, c, q, B⟩ = some s5 ∧ f c s5 = v := by
  obtain ⟨⟨fl, s4, c, q⟩, h4, hC⟩ := Option.bind_eq_some_iff.mp h
  cases fl with
  | next =>
    obtain ⟨s5, h5, hC⟩ := Option.map_eq_some_iff.mp hC
    exact ⟨s4, c, q, s5, h4, h5, hC⟩
  | _ => cases hC
theorem topRan (w : World) (os : OsState) : ∃ s, topRun treeTable pw w 11 (annW w) (12 + (1 + (660 + (5609 + (900 + 5))))) ⟨boot_heap w.params, Array.mk [], boot_drawn, boot_toks, os⟩ (topStub pw) = some s ∧ looksW w s = true ∧ openSeen qv ["OP_SORT"] (importedModules pw.main.body) XT true s = openGood qv ["OP_SORT"] ∧
    KHas.map s.heap.get? = (KH w.params).map fun p => some p.2 := by
  have hC := pieceC w os
  have hp := piecePre w os
  have hk := pieceBlock w os
  have hA := pieceA w os
  have hB := tab_run w os
  rw [seg_eq, run_eq, open_eq] at hC
  rw [go_eq, den_eq] at hp
  rw [seg_eq] at hk hA
  rw [absBoot] at hp
  have hs := bodySplit
  generalize cdW = cd at hC hp hk hA hB
  obtain ⟨s4, c, q, s5, h4, h5, hv⟩ := last_of hC
  have hc := congrArg Prod.fst hv
  have hv2 := congrArg Prod.snd hv
  dsimp only at hc hv2
  rw [hc] at h4 h5
  exact ⟨s5, chain5 hs hp hk hA hB h4 h5, congrArg Prod.fst hv2, congrArg (fun x => x.2.1) hv2, congrArg (fun x => x.2.2) hv2⟩
theorem leftW : LeftO pw qv ["OP_SORT"] XT HK.obs HK.val 8100 :=
  left_of (boot_open opensPlain (by decide) fenceNone) bootOk bootN (by decide) topRan
end
section
set_option maxRecDepth 100000
theorem wellSaidT : PySem.W.Fast.tw9446332074065402090 PySem.Challenge.rw_sa0224_01 = true := by kernel_rfl
theorem wellSaid_ : OpenLaw.wellSaid PySem.Challenge.rw_sa0224_01 = true := by
  rw [PySem.W.Fast.te9446332074065402090]; exact wellSaidT
theorem dSome : (defOf qv "law").isSome = true := by kernel_rfl
noncomputable def dW : DefRec × List (Str × PySem.Expr) := (defOf qv "law").get dSome
set_option maxHeartbeats 8000000 in
theorem hd2 (hc : WalkO qv ["OP_SORT"] (XL qv []) HK.says PySem.Challenge.rw_sa0224_01.row.toRowW dW.1 dW.2 fun f vs => PySem.call f vs) : PySem.Challenge.rw_sa0224_01.Holds := by
  w_on
  refine holds_law wellSaid_ fun said => ?_
  refine holds_open (q := qv) (loose := ["OP_SORT"]) (Xt := XT) (XP := XL qv []) (Yf := Hook.obs HK) (Ya := Hook.val HK) (YP := Hook.says HK) (N := 8100) (d := dW.1) (kwd := dW.2) leftW (Hook.of HK) (Hook.keeps HK) (fun s e => xl_of s (Bool.and_eq_true_iff.mp e).1) XL.keeps (by kernel_rfl) (by kernel_rfl) (by kernel_rfl)
    (fun s e => recFacts_of (Bool.and_eq_true_iff.mp e).2) (by kernel_rfl) said (by kernel_rfl) ⟨rfl, rfl, rfl, rfl, rfl, by kernel_rfl⟩ ?hw hc
  w_witness2
end
section
/-- the kept part of a heap: what no step of ours may change -/
noncomputable abbrev Kept := Addr → Option Obj

noncomputable def Kept.on (z : Kept) (h : Heap) : Prop := ∀ a o, z a = some o → h.get? a = some o
noncomputable def Kept.le (z z' : Kept) : Prop := ∀ a o, z a = some o → z' a = some o

theorem Kept.le_refl (z : Kept) : z.le z := fun _ _ e => e
theorem Kept.le_trans {z₁ z₂ z₃ : Kept} (x : z₁.le z₂) (y : z₂.le z₃) : z₁.le z₃ := fun a o e => y a o (x a o e)

noncomputable def tupO (vs : List Value) (n : Nat) : Obj := { cls := .type "tuple", dict := none, data := .seq vs.toArray n, slots := #[] }
noncomputable def lstO (vs : List Value) (n : Nat) : Obj := { cls := .type "list", dict := none, data := .seq vs.toArray n, slots := #[] }

section
variable {prog : Program} {w : World}
variable (prog w)
mutual
inductive Rep (z : Kept) : Value → PyData → Prop
  | none : Rep z .none .none
  | bool (b : Bool) : Rep z (.bool b) (.bool b)
  | int (i : Int) (t : Tok) : Rep z (.int i t) (.int i)
  | str (x : Str) (t : Tok) : Rep z (.str x t) (.str x)
  | tuple {a : Addr} {vs : List Value} {n : Nat} {ds : List PyData} : z a = some (tupO vs n) → vs.length ≤ sizeLine → Reps z vs ds → Rep z (.ref a) (.tuple ds)
  | list {a : Addr} {vs : List Value} {n : Nat} {ds : List PyData} : z a = some (lstO vs n) → vs.length ≤ sizeLine → Reps z vs ds → Rep z (.ref a) (.list ds)
  | dict {a : Addr} {o : Obj} {kvs : List (Int × Value)} {ds : List (PyData × PyData)} : z a = some o → o.IsDictOf (intKind prog w) kvs → RepKV z kvs ds → Rep z (.ref a) (.dict ds)
inductive Reps (z : Kept) : List Value → List PyData → Prop
  | nil : Reps z [] []
  | cons {v : Value} {d : PyData} {vs : List Value} {ds : List PyData} : Rep z v d → Reps z vs ds → Reps z (v :: vs) (d :: ds)
inductive RepKV (z : Kept) : List (Int × Value) → List (PyData × PyData) → Prop
  | nil : RepKV z [] []
  | cons {k : Int} {v : Value} {d : PyData} {kvs : List (Int × Value)} {ds : List (PyData × PyData)} : Rep z v d → RepKV z kvs ds → RepKV z ((k, v) :: kvs) ((.int k, d) :: ds)
end
end

section
variable {prog : Program} {w : World} {z z' : Kept}
mutual
theorem Rep.mono {v : Value} {d : PyData} (k : z.le z') : Rep prog w z v d → Rep prog w z' v d
  | .none => .none
  | .bool b => .bool b
  | .int i t => .int i t
  | .str x t => .str x t
  | .tuple h1 h2 h3 => .tuple (k _ _ h1) h2 (Reps.mono k h3)
  | .list h1 h2 h3 => .list (k _ _ h1) h2 (Reps.mono k h3)
  | .dict h1 h2 h3 => .dict (k _ _ h1) h2 (RepKV.mono k h3)
theorem Reps.mono {vs : List Value} {ds : List PyData} (k : z.le z') : Reps prog w z vs ds → Reps prog w z' vs ds
  | .nil => .nil
  | .cons h1 h2 => .cons (Rep.mono k h1) (Reps.mono k h2)
theorem RepKV.mono {kvs : List (Int × Value)} {ds : List (PyData × PyData)} (k : z.le z') : RepKV prog w z kvs ds → RepKV prog w z' kvs ds
  | .nil => .nil
  | .cons h1 h2 => .cons (Rep.mono k h1) (RepKV.mono k h2)
end

theorem Reps.length {vs : List Value} {ds : List PyData} (h : Reps prog w z vs ds) : vs.length = ds.length := by
  induction vs generalizing ds with
  | nil => cases h; rfl
  | cons v vs ih => cases h with | cons h1 h2 => simp [ih h2]

theorem Reps.get {vs : List Value} {ds : List PyData} (h : Reps prog w z vs ds) {i : Nat} {d : PyData} (e : ds[i]? = some d) : ∃ v, vs[i]? = some v ∧ Rep prog w z v d := by
  induction vs generalizing ds i with
  | nil => cases h; simp at e
  | cons v vs ih =>
    cases h with
    | cons h1 h2 =>
      cases i with
      | zero => simp at e; subst e; exact ⟨v, by simp, h1⟩
      | succ i => simp at e; obtain ⟨v', e', r⟩ := ih h2 e; exact ⟨v', by simpa using e', r⟩

theorem Reps.append {vs ws : List Value} {ds es : List PyData} (h : Reps prog w z vs ds) (g : Reps prog w z ws es) : Reps prog w z (vs ++ ws) (ds ++ es) := by
  induction vs generalizing ds with
  | nil => cases h; exact g
  | cons v vs ih => cases h with | cons h1 h2 => exact .cons h1 (ih h2)

theorem Reps.drop {vs : List Value} {ds : List PyData} (h : Reps prog w z vs ds) (n : Nat) : Reps prog w z (vs.drop n) (ds.drop n) := by
  induction n generalizing vs ds with
  | zero => simpa using h
  | succ n ih =>
    cases h with
    | nil => simpa using Reps.nil
    | cons h1 h2 => simpa using ih h2

theorem Reps.take {vs : List Value} {ds : List PyData} (h : Reps prog w z vs ds) (n : Nat) : Reps prog w z (vs.take n) (ds.take n) := by
  induction n generalizing vs ds with
  | zero => simpa using Reps.nil
  | succ n ih =>
    cases h with
    | nil => simpa using Reps.nil
    | cons h1 h2 => simpa using Reps.cons h1 (ih h2)

-- the plain part
mutual
noncomputable def plain : PyData → Bool
  | .none | .bool _ | .int _ => true
  | .tuple xs | .list xs => plains xs
  | _ => false
noncomputable def plains : List PyData → Bool
  | [] => true
  | d :: ds => plain d && plains ds
end

mutual
theorem Rep.reads {h : Heap} (on : z.on h) {v : Value} {d : PyData} (p : plain d = true) : Rep prog w z v d → ∃ as, Reads h v d as
  | .none => ⟨[], .none⟩
  | .bool b => ⟨[], .bool b⟩
  | .int i t => ⟨[], .int i t⟩
  | .str x t => ⟨[], .str x t⟩
  | .tuple h1 _ h3 => by
    simp only [plain] at p
    obtain ⟨as, r⟩ := Reps.reads on p h3
    exact ⟨as, reads_tuple_at (on _ _ h1) rfl rfl (by simpa using r)⟩
  | .list h1 _ h3 => by
    simp only [plain] at p
    obtain ⟨as, r⟩ := Reps.reads on p h3
    exact ⟨_, reads_list_at (on _ _ h1) rfl rfl (by simpa using r)⟩
  | .dict _ _ _ => by simp [plain] at p
theorem Reps.reads {h : Heap} (on : z.on h) {vs : List Value} {ds : List PyData} (p : plains ds = true) : Reps prog w z vs ds → ∃ as, ReadsAll h vs ds as
  | .nil => ⟨[], .nil⟩
  | .cons h1 h2 => by
    simp only [plains, Bool.and_eq_true] at p
    obtain ⟨as, r⟩ := Rep.reads on p.1 h1
    obtain ⟨bs, rs⟩ := Reps.reads on p.2 h2
    exact ⟨_, .cons r rs⟩
end
end
end
section
/-- what a piece of text gives: a value; the program's own refusal; nothing known -/
inductive Res (α : Type) where
  | ok (a : α)
  | exc
  | bad
noncomputable def Res.bind {α β : Type} : Res α → (α → Res β) → Res β
  | .ok a, f => f a
  | .exc, _ => .exc
  | .bad, _ => .bad
theorem Res.bind_ok {α β : Type} (a : α) (f : α → Res β) : (Res.ok a).bind f = f a := rfl
theorem Res.bind_exc {α β : Type} (f : α → Res β) : (Res.exc : Res α).bind f = .exc := rfl
theorem Res.bind_bad {α β : Type} (f : α → Res β) : (Res.bad : Res α).bind f = .bad := rfl
noncomputable def Res.guard {α : Type} (b : Bool) (r : Res α) : Res α := match b with | true => r | false => .bad
theorem Res.guard_true {α : Type} (r : Res α) : Res.guard true r = r := rfl

/-- names to (data, is it the frame's own and still open) -/
noncomputable abbrev Vars := Str → Option (PyData × Bool)
noncomputable def Vars.set (Γ : Vars) (x : Str) (d : PyData) (own : Bool) : Vars := fun y => if y = x then some (d, own) else Γ y
noncomputable def Vars.freeze (Γ : Vars) (xs : List Str) : Vars := fun y => if y ∈ xs then (Γ y).map (fun p => (p.1, false)) else Γ y

noncomputable def Vars.only (Γ : Vars) (csc : Scope) : Vars := fun y => if csc.names.lookup y = some .free then Γ y else none

structure Tab where
  consts : Str → Option Int
  funs : Str → Option (List PyData → Res PyData)
  sorts : List (Int × Int)

noncomputable def scopeOk (csc : Scope) : Bool := csc.kind == .function && csc.names.all (fun x => x.2 != .local || csc.names.lookup x.1 == some .local) && decide (csc.names.map (·.1)).Nodup
noncomputable def freeOk (sc : Scope) (Γ : Vars) (csc : Scope) : Bool := csc.names.all fun x => x.2 != .free || ((Γ x.1).isSome && (sc.names.lookup x.1 == some .cell || sc.names.lookup x.1 == some .free))
noncomputable def isGlob (sc : Scope) (x : Str) : Bool := sc.names.lookup x == some .globalImplicit
noncomputable def isLoc (sc : Scope) (x : Str) : Bool := sc.names.lookup x == some .local || sc.names.lookup x == some .cell

-- plain data of a small depth: what == and in are told of
noncomputable def okD : Nat → PyData → Bool
  | _, .none | _, .bool _ | _, .int _ => true
  | n + 1, .tuple xs | n + 1, .list xs => xs.all (okD n)
  | _, _ => false

noncomputable def big : Int := 9223372036854775808
noncomputable def fits (a : Int) : Bool := decide (-big < a) && decide (a < big)
noncomputable def small (a : Int) : Bool := decide (-1000000000 < a) && decide (a < 1000000000)
noncomputable def szMax : Nat := 2000

noncomputable def nums {β : Type} (a b : PyData) (f : Int → Int → Res β) : Res β := match a with
  | .int i => (match b with | .int j => f i j | _ => .bad)
  | _ => .bad
noncomputable def numsOr {β : Type} (a b : PyData) (f : Int → Int → Res β) (o : Res β) : Res β := match a with
  | .int i => (match b with | .int j => f i j | _ => o)
  | _ => o
noncomputable def lists {β : Type} (a b : PyData) (f : List PyData → List PyData → Res β) (o : Res β) : Res β := match a with
  | .list xs => (match b with | .list ys => f xs ys | _ => .bad)
  | _ => o
noncomputable def seqs {β : Type} (a : PyData) (f : List PyData → Res β) : Res β := match a with
  | .tuple xs => f xs
  | .list xs => f xs
  | _ => .bad
theorem nums_ok {β : Type} {a b : PyData} {f : Int → Int → Res β} {c : β} (h : nums a b f = .ok c) : ∃ i j, a = .int i ∧ b = .int j ∧ f i j = .ok c := by
  cases a with
  | int i => cases b with
    | int j => exact ⟨i, j, rfl, rfl, h⟩
    | _ => cases h
  | _ => cases h
theorem nums_exc {β : Type} {a b : PyData} {f : Int → Int → Res β} (hf : ∀ i j, f i j ≠ .exc) : nums a b f ≠ .exc := by
  cases a with
  | int i => cases b with
    | int j => exact hf i j
    | _ => exact nofun
  | _ => exact nofun
theorem numsOr_ok {β : Type} {a b : PyData} {f : Int → Int → Res β} {o : Res β} {c : β} (h : numsOr a b f o = .ok c) : (∃ i j, a = .int i ∧ b = .int j ∧ f i j = .ok c) ∨ o = .ok c := by
  cases a with
  | int i => cases b with
    | int j => exact .inl ⟨i, j, rfl, rfl, h⟩
    | _ => exact .inr h
  | _ => exact .inr h
theorem numsOr_exc {β : Type} {a b : PyData} {f : Int → Int → Res β} {o : Res β} (hf : ∀ i j, f i j ≠ .exc) (ho : o ≠ .exc) : numsOr a b f o ≠ .exc := by
  cases a with
  | int i => cases b with
    | int j => exact hf i j
    | _ => exact ho
  | _ => exact ho
theorem lists_ok {β : Type} {a b : PyData} {f : List PyData → List PyData → Res β} {o : Res β} {c : β} (h : lists a b f o = .ok c) : (∃ xs ys, a = .list xs ∧ b = .list ys ∧ f xs ys = .ok c) ∨ o = .ok c := by
  cases a with
  | list xs => cases b with
    | list ys => exact .inl ⟨xs, ys, rfl, rfl, h⟩
    | _ => cases h
  | _ => exact .inr h
theorem lists_exc {β : Type} {a b : PyData} {f : List PyData → List PyData → Res β} {o : Res β} (hf : ∀ i j, f i j ≠ .exc) (ho : o ≠ .exc) : lists a b f o ≠ .exc := by
  cases a with
  | list xs => cases b with
    | list ys => exact hf xs ys
    | _ => exact nofun
  | _ => exact ho
theorem Res.guard_exc {α : Type} {b : Bool} {a : α} : Res.guard b (.ok a) ≠ .exc := by cases b <;> exact nofun
noncomputable def binop (op : Operator) (a b : PyData) : Res PyData := match op with
  | .Add => lists a b (fun xs ys => .guard (decide (xs.length + ys.length ≤ szMax)) (.ok (.list (xs ++ ys)))) (nums a b fun i j => .ok (.int (i + j)))
  | .Sub => nums a b fun i j => .ok (.int (i - j))
  | .Mult => nums a b fun i j => .guard (fits i && fits j) (.ok (.int (i * j)))
  | .FloorDiv => nums a b fun i j => .guard (decide (j ≠ 0) && small j) (.ok (.int (i.fdiv j)))
  | .Mod => nums a b fun i j => .guard (decide (j ≠ 0)) (.ok (.int (i.fmod j)))
  | _ => .bad
theorem binop_exc {op : Operator} {a b : PyData} : binop op a b ≠ .exc := by
  cases op with
  | Add => exact lists_exc (fun _ _ => Res.guard_exc) (nums_exc fun _ _ => nofun)
  | Sub => exact nums_exc fun _ _ => nofun
  | Mult => exact nums_exc fun _ _ => Res.guard_exc
  | FloorDiv => exact nums_exc fun _ _ => Res.guard_exc
  | Mod => exact nums_exc fun _ _ => Res.guard_exc
  | _ => exact nofun

noncomputable def memD (x : PyData) (xs : List PyData) : Res Bool := .guard (okD 7 x && xs.all (okD 7)) (.ok (xs.any fun y => PyData.eqv y x))
noncomputable def cmp1 (op : CmpOp) (a b : PyData) : Res Bool := match op with
  | .Lt => nums a b fun i j => .ok (decide (i < j))
  | .LtE => nums a b fun i j => .ok (decide (i ≤ j))
  | .Gt => nums a b fun i j => .ok (decide (i > j))
  | .GtE => nums a b fun i j => .ok (decide (i ≥ j))
  | .Eq => numsOr a b (fun i j => .ok (i == j)) (.guard (okD 8 a && okD 8 b) (.ok (PyData.eqv a b)))
  | .NotEq => nums a b fun i j => .ok (i != j)
  | .In => seqs b fun xs => memD a xs
  | _ => .bad
theorem cmp1_exc {op : CmpOp} {a b : PyData} : cmp1 op a b ≠ .exc := by
  cases op with
  | Eq => exact numsOr_exc (fun _ _ => nofun) Res.guard_exc
  | In => cases b with
    | tuple xs => exact Res.guard_exc
    | list xs => exact Res.guard_exc
    | _ => exact nofun
  | Lt => exact nums_exc fun _ _ => nofun
  | LtE => exact nums_exc fun _ _ => nofun
  | Gt => exact nums_exc fun _ _ => nofun
  | GtE => exact nums_exc fun _ _ => nofun
  | NotEq => exact nums_exc fun _ _ => nofun
  | _ => exact nofun

noncomputable def truth : PyData → Res Bool
  | .none => .ok false
  | .bool b => .ok b
  | .int i => .ok (i != 0)
  | .list xs => .ok (!xs.isEmpty)
  | _ => .bad

noncomputable def index : PyData → PyData → Res PyData
  | .tuple xs, .int k => if 0 ≤ k then (match xs[k.toNat]? with | some d => .ok d | none => .bad) else .bad
  | .list xs, .int k => if 0 ≤ k then (match xs[k.toNat]? with | some d => .ok d | none => .bad) else .bad
  | .dict kvs, .int k => match (kvs.find? fun e => match e.1 with | .int i => i == k | _ => false) with | some e => .ok e.2 | none => .bad
  | _, _ => .bad

noncomputable def slice : PyData → Int → Int → Res PyData
  | .list xs, lo, hi => .guard (decide (0 ≤ lo) && decide (lo ≤ hi) && decide (hi ≤ 1000)) (.ok (.list ((xs.take hi.toNat).drop lo.toNat)))
  | .tuple xs, lo, hi => .guard (decide (1 ≤ lo) && decide (lo ≤ hi) && decide (hi ≤ xs.length)) (.ok (.tuple ((xs.take hi.toNat).drop lo.toNat)))
  | _, _, _ => .bad

noncomputable def rangeD (n : Int) : List PyData := (List.range n.toNat).map fun (i : Nat) => PyData.int (i : Int)

noncomputable def intsOf : List PyData → Option (List Int)
  | [] => some []
  | .int i :: r => (intsOf r).map (i :: ·)
  | _ :: _ => none

-- the built-ins, by their names
noncomputable def builtin1 (x : Str) (d : PyData) : Res PyData :=
  if x = "len" then (match d with | .list xs => .ok (.int xs.length) | .tuple xs => .ok (.int xs.length) | _ => .bad)
  else if x = "list" then (match d with | .list xs => .ok (.list xs) | .tuple xs => .ok (.list xs) | _ => .bad)
  else if x = "tuple" then (match d with | .list xs => .ok (.tuple xs) | _ => .bad)
  else if x = "min" then (match d with | .list xs => (match intsOf xs with | some (a :: r) => .ok (.int (r.foldl min a)) | _ => .bad) | _ => .bad)
  else .bad
noncomputable def builtinNames : List Str := ["len", "list", "tuple", "min", "range"]

noncomputable def evName (T : Tab) (sc : Scope) (Γ : Vars) (x : Str) : Res PyData :=
  match Γ x with
  | some (d, false) => .ok d
  | some (_, true) => .bad
  | none => .guard (isGlob sc x) (match T.consts x with | some i => .ok (.int i) | none => .bad)

noncomputable def compL (test : Vars → Res Bool) (elt : Vars → Res PyData) (x : Str) (Γ : Vars) : List PyData → Res (List PyData)
  | [] => .ok []
  | d :: r => (test (Γ.set x d false)).bind fun b =>
    if b then (elt (Γ.set x d false)).bind fun e => (compL test elt x Γ r).bind fun es => .ok (e :: es) else compL test elt x Γ r

noncomputable def testOf (ifs : List Expr) (f : Expr → Res Bool) : Res Bool := match ifs with
  | [] => .ok true
  | [c] => f c
  | _ => .bad
noncomputable def noExc {α : Type} : Res α → Res α
  | .exc => .bad
  | r => r

noncomputable def notStar : Expr → Bool
  | .Starred .. => false
  | _ => true

mutual
noncomputable def ev (T : Tab) : Nat → Scope → Vars → Expr → Res PyData
  | 0, _, _, _ => .bad
  | n + 1, sc, Γ, e => match e with
    | .Constant c _ _ => (match c with | .int i => .ok (.int i) | .none => .ok .none | .bool b => .ok (.bool b) | .str x => .ok (.str x) | _ => .bad)
    | .Name x _ => evName T sc Γ x
    | .BoolOp op vs _ => evBool T n sc Γ op vs
    | .BinOp l op r _ => (ev T n sc Γ l).bind fun a => (ev T n sc Γ r).bind fun b => binop op a b
    | .UnaryOp op x _ => (match op with
      | .USub => (ev T n sc Γ x).bind fun a => (match a with | .int i => .ok (.int (-i)) | _ => .bad)
      | .Not => (evB T n sc Γ x).bind fun a => (truth a).bind fun b => .ok (.bool (!b))
      | _ => .bad)
    | .IfExp t b o _ => (evT T n sc Γ t).bind fun c => if c then ev T n sc Γ b else ev T n sc Γ o
    | .Compare l ops rs _ => (ev T n sc Γ l).bind fun a => (evChain T n sc Γ a ops rs).bind fun b => .ok (.bool b)
    | .Tuple es _ _ => (evs T n sc Γ es).bind fun ds => .guard (decide (ds.length ≤ szMax)) (.ok (.tuple ds))
    | .List es _ => (evs T n sc Γ es).bind fun ds => .guard (decide (ds.length ≤ szMax)) (.ok (.list ds))
    | .Subscript v s _ => (match s with
      | .Slice (some (.Constant (.int lo) _ _)) (some (.Constant (.int hi) _ _)) none _ => (evB T n sc Γ v).bind fun d => slice d lo hi
      | s => (evB T n sc Γ v).bind fun d => (ev T n sc Γ s).bind fun k => index d k)
    | .ListComp elt gens csc _ => (evComp T n sc Γ elt gens csc).bind fun ds => .ok (.list ds)
    | .Call f args kws pos => (match kws with
      | [] => (match f with
        | .Name x _ => (match Γ x with
          | some _ => .bad
          | none => .guard (isGlob sc x) (evCall T n sc Γ x args))
        | .Attribute (.Name x _) m apos => .guard (decide (x = "OP_SORT") && decide (m = "get") && isGlob sc x && (Γ x).isNone && apos.endLine == pos.line && args.all notStar) (match args with
          | [a, b] => (ev T n sc Γ a).bind fun d => (ev T n sc Γ b).bind fun k => (match d, k with
            | .int i, .int j => .ok (.int ((T.sorts.lookup i).getD j))
            | _, _ => .bad)
          | _ => .bad)
        | _ => .bad)
      | _ => .bad)
    | _ => .bad
noncomputable def evCall (T : Tab) : Nat → Scope → Vars → Str → List Expr → Res PyData
  | 0, _, _, _, _ => .bad
  | n + 1, sc, Γ, x, args => .guard (args.all notStar && !args.isEmpty)
    (if x ∈ builtinNames then (match args with
      | [e] => if x = "list" then (evIter T n sc Γ e).bind fun ds => .ok (.list ds) else if x = "range" then .bad else (evB T n sc Γ e).bind fun d => builtin1 x d
      | args => .guard (decide (x = "min")) ((evs T n sc Γ args).bind fun ds => (match ds with | [.int i, .int j] => .ok (.int (min i j)) | _ => .bad)))
    else match T.funs x with
      | some φ => (evs T n sc Γ args).bind φ
      | none => .bad)
-- where the value itself is not kept: the frame's open lists may be read
noncomputable def evB (T : Tab) : Nat → Scope → Vars → Expr → Res PyData
  | 0, _, _, _ => .bad
  | n + 1, sc, Γ, e => match e with
    | .Name x p => (match Γ x with | some (d, _) => .ok d | none => ev T n sc Γ (.Name x p))
    | e => ev T n sc Γ e
noncomputable def evs (T : Tab) : Nat → Scope → Vars → List Expr → Res (List PyData)
  | 0, _, _, _ => .bad
  | n + 1, sc, Γ, es => match es with
    | [] => .ok []
    | e :: r => (ev T n sc Γ e).bind fun d => (evs T n sc Γ r).bind fun ds => .ok (d :: ds)
noncomputable def evBool (T : Tab) : Nat → Scope → Vars → BoolOp → List Expr → Res PyData
  | 0, _, _, _, _ => .bad
  | n + 1, sc, Γ, op, es => match es with
    | [] => .bad
    | [e] => ev T n sc Γ e
    | e :: r => (ev T n sc Γ e).bind fun d => (truth d).bind fun b => (match op, b with
      | .And, false => .ok d
      | .Or, true => .ok d
      | _, _ => evBool T n sc Γ op r)
noncomputable def evT (T : Tab) : Nat → Scope → Vars → Expr → Res Bool
  | 0, _, _, _ => .bad
  | n + 1, sc, Γ, e => match e with
    | .UnaryOp .Not x _ => (evT T n sc Γ x).bind fun b => .ok (!b)
    | .BoolOp op es _ => evAll T n sc Γ op es
    | .Compare l ops rs _ => (ev T n sc Γ l).bind fun a => evChain T n sc Γ a ops rs
    | .IfExp .. => .bad
    | e => (evB T n sc Γ e).bind truth
noncomputable def evAll (T : Tab) : Nat → Scope → Vars → BoolOp → List Expr → Res Bool
  | 0, _, _, _, _ => .bad
  | n + 1, sc, Γ, op, es => match es with
    | [] => .ok (op == .And)
    | e :: r => (evT T n sc Γ e).bind fun b => (match op, b with
      | .And, false => .ok false
      | .Or, true => .ok true
      | _, _ => evAll T n sc Γ op r)
noncomputable def evChain (T : Tab) : Nat → Scope → Vars → PyData → List CmpOp → List Expr → Res Bool
  | 0, _, _, _, _, _ => .bad
  | n + 1, sc, Γ, a, ops, es => match ops, es with
    | [op], [e] => (evB T n sc Γ e).bind fun b => cmp1 op a b
    | op :: op' :: ops, e :: es => (ev T n sc Γ e).bind fun b => (cmp1 op a b).bind fun c => if c then evChain T n sc Γ b (op' :: ops) es else .ok false
    | _, _ => .bad
noncomputable def evIter (T : Tab) : Nat → Scope → Vars → Expr → Res (List PyData)
  | 0, _, _, _ => .bad
  | n + 1, sc, Γ, e => match e with
    | .Call (.Name x _) [a] [] _ =>
      if x = "range" then (match Γ x with
        | some _ => .bad
        | none => .guard (isGlob sc x) ((ev T n sc Γ a).bind fun d => (match d with | .int k => .guard (small k && decide (k ≤ szMax)) (.ok (rangeD k)) | _ => .bad)))
      else (ev T n sc Γ e).bind fun d => (match d with | .list xs => .ok xs | .tuple xs => .ok xs | _ => .bad)
    | e => (evB T n sc Γ e).bind fun d => (match d with | .list xs => .ok xs | .tuple xs => .ok xs | _ => .bad)
noncomputable def evComp (T : Tab) : Nat → Scope → Vars → Expr → List Comprehension → Scope → Res (List PyData)
  | 0, _, _, _, _, _ => .bad
  | n + 1, sc, Γ, elt, gens, csc => match gens with
    | [⟨.Name x _, iter, ifs, 0⟩] => .guard (scopeOk csc && freeOk sc Γ csc && isLoc csc x && !(x == "__debug__") && !(x == "__classdict__"))
        ((evIter T n sc Γ iter).bind fun items => .guard (decide (items.length ≤ szMax))
          (noExc (compL (fun Γ' => testOf ifs fun c => evT T n csc Γ' c) (fun Γ' => ev T n csc Γ' elt) x (Γ.only csc) items)))
    | _ => .bad
end
end
section
/-- a step that keeps all that stood; what is new may be kept too -/
structure Ext (z z' : Kept) (h h' : Heap) : Prop where
  le : z.le z'
  old : ∀ a o, h.get? a = some o → z' a = z a
  on : z'.on h'
  keep : ∀ a o, h.get? a = some o → h'.get? a = some o

theorem Ext.refl {z : Kept} {h : Heap} (on : z.on h) : Ext z z h h := ⟨z.le_refl, fun _ _ _ => rfl, on, fun _ _ e => e⟩
theorem Ext.trans {z z₁ z₂ : Kept} {h h₁ h₂ : Heap} (x : Ext z z₁ h h₁) (y : Ext z₁ z₂ h₁ h₂) : Ext z z₂ h h₂ :=
  ⟨Kept.le_trans x.le y.le, fun a o e => (y.old a o (x.keep a o e)).trans (x.old a o e), y.on, fun a o e => y.keep a o (x.keep a o e)⟩
/-- nothing new is kept -/
theorem Ext.heap {z : Kept} {h h' : Heap} (on : z.on h) (k : ∀ a o, h.get? a = some o → h'.get? a = some o) : Ext z z h h' :=
  ⟨z.le_refl, fun _ _ _ => rfl, fun a o e => k a o (on a o e), k⟩

/-- keep one new object -/
noncomputable def Kept.put (z : Kept) (a : Addr) (o : Obj) : Kept := fun b => if b = a then some o else z b
theorem Ext.put {z z' : Kept} {h h' : Heap} {a : Addr} {o : Obj} (x : Ext z z' h h') (hn : h.get? a = none) (hz : z' a = none) (ho : h'.get? a = some o) : Ext z (z'.put a o) h h' where
  le := fun b ob e => by
    unfold Kept.put
    by_cases q : b = a
    · subst q; have := x.le _ _ e; rw [hz] at this; cases this
    · rw [if_neg q]; exact x.le _ _ e
  old := fun b ob e => by
    unfold Kept.put
    by_cases q : b = a
    · subst q; rw [hn] at e; cases e
    · rw [if_neg q]; exact x.old b ob e
  on := fun b ob e => by
    unfold Kept.put at e
    by_cases q : b = a
    · subst q; rw [if_pos rfl] at e; cases e; exact ho
    · rw [if_neg q] at e; exact x.on _ _ e
  keep := x.keep
theorem Kept.put_self (z : Kept) (a : Addr) (o : Obj) : z.put a o a = some o := by unfold Kept.put; rw [if_pos rfl]
theorem Kept.put_le {z : Kept} {a : Addr} {o : Obj} (hz : z a = none) : z.le (z.put a o) := fun b ob e => by
  unfold Kept.put
  by_cases q : b = a
  · subst q; rw [hz] at e; cases e
  · rw [if_neg q]; exact e
theorem none_of_on {z : Kept} {h : Heap} (on : z.on h) {a : Addr} (e : h.get? a = none) : z a = none := by
  cases q : z a with
  | none => rfl
  | some o => have := on a o q; rw [e] at this; cases this
theorem get_size_none (h : Heap) : h.get? h.objs.size = none := by
  cases q : h.get? h.objs.size with
  | none => rfl
  | some o => exact absurd (Heap.lt_size q) (Nat.lt_irrefl _)
theorem Ext.push {z : Kept} {h : Heap} (on : z.on h) {o : Obj} (hf : o.isFreed = false := by rfl) : Ext z (z.put h.objs.size o) h (h.push o) :=
  Ext.put (Ext.heap on fun a o' e => Heap.get?_push_of_some o e) (get_size_none h) (none_of_on on (get_size_none h)) (Heap.get?_push_size h hf)

/-- a name of the frame and its value -/
noncomputable def Holds (env : Env) (h : Heap) (x : Str) (v : Value) : Prop :=
  (env.kindOf x = some .local ∧ ∃ m, h.Ns env.locals m ∧ m x = some v) ∨
  ((x == ("__classdict__" : Str)) = false ∧ (env.kindOf x = some .cell ∨ env.kindOf x = some .free) ∧ ∃ c, env.cells.lookup x = some c ∧ h.IsCell c (some v))
theorem Holds.keeps {env : Env} {h h' : Heap} {x : Str} {v : Value} (H : Holds env h x v) (k : ∀ a o, h.get? a = some o → h'.get? a = some o) : Holds env h' x v := by
  rcases H with ⟨hk, m, hn, hv⟩ | ⟨hx, hk, c, hc, hv⟩
  · exact .inl ⟨hk, m, hn.keeps k, hv⟩
  · exact .inr ⟨hx, hk, c, hc, hv.keeps k⟩

section
variable {prog : Program} {w : World}
variable (prog w)
/-- told at the top by the heap, within by what is kept -/
inductive Shal (z : Kept) (h : Heap) : Value → PyData → Prop
  | rep {v : Value} {d : PyData} : Rep prog w z v d → Shal z h v d
  | list {a : Addr} {vs : List Value} {n : Nat} {ds : List PyData} : h.get? a = some (lstO vs n) → vs.length ≤ sizeLine → Reps prog w z vs ds → Shal z h (.ref a) (.list ds)
  | dict {a : Addr} {o : Obj} {kvs : List (Int × Value)} {ds : List (PyData × PyData)} : h.get? a = some o → o.IsDictOf (intKind prog w) kvs → RepKV prog w z kvs ds → Shal z h (.ref a) (.dict ds)
variable {prog w}
theorem Shal.ext {z z' : Kept} {h h' : Heap} {v : Value} {d : PyData} (x : Ext z z' h h') : Shal prog w z h v d → Shal prog w z' h' v d
  | .rep r => .rep (r.mono x.le)
  | .list h1 h2 h3 => .list (x.keep _ _ h1) h2 (h3.mono x.le)
  | .dict h1 h2 h3 => .dict (x.keep _ _ h1) h2 (h3.mono x.le)

/-- an exception of the program's own class on its way through the frames fr -/
noncomputable def XP (BC : Addr) (xb : Heap) (fr : List Env) (h h' : Heap) (e : Addr) : Prop := (∃ a0, Heap.FlyingW xb fr e (.ref BC) a0 h') ∧ h.UpToSlots h'
theorem XP.before {BC : Addr} {xb : Heap} {fr : List Env} {h h₁ h' : Heap} {e : Addr} (k : ∀ a o, h.get? a = some o → h₁.get? a = some o) (x : XP BC xb fr h₁ h' e) : XP BC xb fr h h' e :=
  ⟨x.1, (Heap.UpToSlots.of_keeps k).trans x.2⟩

/-- what a tree must come to -/
noncomputable def FineG {α β : Type} (BC : Addr) (xb : Heap) (fr : List Env) (z : Kept) (s : Shared) (P : Kept → Heap → β → α → Prop) (Q : β → Shared → Prop) (E : Value → Shared → Prop) : Res α → Prop
  | .ok d => ∀ v z' h' tk, Ext z z' s.heap h' → P z' h' v d → Q v { s with heap := h', toks := tk }
  | .exc => ∀ e h' tk, XP BC xb fr s.heap h' e → E (.ref e) { s with heap := h', toks := tk }
  | .bad => False
noncomputable abbrev Fine (prog : Program) (w : World) (BC : Addr) (xb : Heap) (fr : List Env) (z : Kept) (s : Shared) (Q : Value → Shared → Prop) (E : Value → Shared → Prop) (r : Res PyData) : Prop :=
  FineG BC xb fr z s (fun z' _ v d => Rep prog w z' v d) Q E r

theorem FineG.shift {α β : Type} {BC : Addr} {xb : Heap} {fr : List Env} {z z₁ : Kept} {s : Shared} {h₁ : Heap} {t₁ : Tok} {P : Kept → Heap → β → α → Prop} {Q : β → Shared → Prop} {E : Value → Shared → Prop} {r : Res α}
    (X : Ext z z₁ s.heap h₁) (F : FineG BC xb fr z s P Q E r) : FineG BC xb fr z₁ { s with heap := h₁, toks := t₁ } P Q E r := by
  cases r with
  | ok d => exact fun v z' h' tk Y p => F v z' h' tk (X.trans Y) p
  | exc => exact fun e h' tk x => F e h' tk (x.before X.keep)
  | bad => exact F

theorem fine_bind {α β γ δ : Type} {M : Model} {A : Around} {BC : Addr} {xb : Heap} {fr : List Env} {z : Kept} {s : Shared} {P₁ : Kept → Heap → β → α → Prop} {P₂ : Kept → Heap → δ → γ → Prop} {t : Sem β} {r : Res α} {f : α → Res γ}
    {Q : δ → Shared → Prop} {R : β → Shared → Prop} {E : Value → Shared → Prop}
    (h : ∀ R, FineG BC xb fr z s P₁ R E r → wpAny M A t R E s) (hf : FineG BC xb fr z s P₂ Q E (r.bind f))
    (k : ∀ v d z₁ h₁ t₁, r = .ok d → Ext z z₁ s.heap h₁ → P₁ z₁ h₁ v d → FineG BC xb fr z₁ { s with heap := h₁, toks := t₁ } P₂ Q E (f d) → R v { s with heap := h₁, toks := t₁ }) :
    wpAny M A t R E s := by
  refine h R ?_
  cases r with
  | ok d => exact fun v z₁ h₁ t₁ X p => k v d z₁ h₁ t₁ rfl X p (FineG.shift X hf)
  | exc => exact hf
  | bad => exact hf
theorem fine_guard {α β : Type} {BC : Addr} {xb : Heap} {fr : List Env} {z : Kept} {s : Shared} {P : Kept → Heap → β → α → Prop} {Q : β → Shared → Prop} {E : Value → Shared → Prop} {b : Bool} {r : Res α}
    (F : FineG BC xb fr z s P Q E (Res.guard b r)) : b = true ∧ FineG BC xb fr z s P Q E r := by
  cases b with
  | true => exact ⟨rfl, F⟩
  | false => exact F.elim

/-- a def of the program's, told by a function on data -/
noncomputable def Contract (prog : Program) (w : World) (BC : Addr) (base : Heap) (dep : Nat) (fa : Addr) (φ : List PyData → Res PyData) : Prop :=
  ∀ (A : Around) (fr : List Env) (xb : Heap) (z : Kept) (s : Shared) (vs : List Value) (ds : List PyData) (R : Result → Shared → Prop),
    A.handled = none → A.frames = some fr → A.depth + dep < recursionLimit → A.units + 16 * dep + 128 < cLine →
    (∀ a o, base.get? a = some o → s.heap.get? a = some o) → xb.StaysIn s.heap → s.heap.FunFrames xb fr → z.on s.heap → Reps prog w z vs ds →
    Fine prog w BC xb fr z s (fun v s' => R (.ok (.ret v)) s') (fun e s' => R (.error e) s') (φ ds) →
    codeAny (model prog w) A (.call (.ref fa) ⟨vs, []⟩) R s

structure World0 (prog : Program) (w : World) (BC : Addr) (T : Tab) (dep : Nat) (base : Heap) (mg mb : Str → Option Value) : Prop where
  g : base.Ns mainGlobals mg
  b : base.Ns builtinsNs mb
  nolimit : base.NoLimit
  consts : ∀ x i, T.consts x = some i → (∃ t, mg x = some (.int i t)) ∧ (x == ("__debug__" : Str)) = false
  bi : mg "len" = none ∧ mb "len" = some (.builtin "len") ∧ mg "list" = none ∧ mb "list" = some (.type "list") ∧ mg "tuple" = none ∧ mb "tuple" = some (.type "tuple") ∧
    mg "min" = none ∧ mb "min" = some (.builtin "min") ∧ mg "range" = none ∧ mb "range" = some (.type "range")
  sorts : ∃ a kvs, mg "OP_SORT" = some (.ref a) ∧ (a == sysModules) = false ∧ base.DictOf (intKind prog w) a kvs ∧ RepKV prog w (fun _ => none) kvs (T.sorts.map fun p => (.int p.1, .int p.2))
  funs : ∀ x φ, T.funs x = some φ → (x == ("__debug__" : Str)) = false ∧ ∃ fa o fd, mg x = some (.ref fa) ∧ base.get? fa = some o ∧ o.data = .func fd ∧ Contract prog w BC base dep fa φ

structure Now (prog : Program) (w : World) (base xb : Heap) (fr : List Env) (env : Env) (sc : Scope) (z : Kept) (Γ : Vars) (h : Heap) : Prop where
  kind : env.scope.kind = .function
  glob : env.globals = mainGlobals
  bi : env.builtins = builtinsNs
  isG : ∀ x, isGlob sc x = true → env.kindOf x = some .globalImplicit
  isC : ∀ x, sc.names.lookup x = some .cell ∨ sc.names.lookup x = some .free → env.kindOf x = some .cell ∨ env.kindOf x = some .free
  hb : ∀ a o, base.get? a = some o → h.get? a = some o
  on : z.on h
  hxb : xb.StaysIn h
  ff : h.FunFrames xb fr
  vals : ∀ x d own, Γ x = some (d, own) → (x == ("__debug__" : Str)) = false ∧ ∃ v, Holds env h x v ∧ Shal prog w z h v d ∧ (own = false → Rep prog w z v d)

theorem Now.ext {base xb : Heap} {fr : List Env} {env : Env} {sc : Scope} {z z' : Kept} {Γ : Vars} {h h' : Heap} (N : Now prog w base xb fr env sc z Γ h) (x : Ext z z' h h') :
    Now prog w base xb fr env sc z' Γ h' where
  kind := N.kind
  glob := N.glob
  bi := N.bi
  isG := N.isG
  isC := N.isC
  hb := fun a o e => x.keep a o (N.hb a o e)
  on := x.on
  hxb := fun a o e => x.keep a o (N.hxb a o e)
  ff := N.ff.of_keeps fun b o e _ => ⟨o, x.keep b o e, rfl⟩
  vals := fun y d own e => let ⟨h0, v, h1, h2, h3⟩ := N.vals y d own e; ⟨h0, v, h1.keeps x.keep, h2.ext x, fun q => (h3 q).mono x.le⟩
end
end
section
theorem okD_lay : ∀ (n : Nat) (d : PyData), okD n d = true → plain d = true ∧ d.canLay0 = true ∧ d.depth ≤ n := by
  have all : ∀ n, (∀ d, okD n d = true → plain d = true ∧ d.canLay0 = true ∧ d.depth ≤ n) → ∀ xs : List PyData, xs.all (okD n) = true → plains xs = true ∧ PyData.canLayAll0 xs = true ∧ PyData.depthAll xs ≤ n := by
    intro n ih xs h
    induction xs with
    | nil => exact ⟨rfl, rfl, Nat.zero_le _⟩
    | cons d r hi =>
      rw [List.all_cons, Bool.and_eq_true] at h
      obtain ⟨a1, a2, a3⟩ := ih d h.1
      obtain ⟨b1, b2, b3⟩ := hi h.2
      refine ⟨by simp [plains, a1, b1], by simp [PyData.canLayAll0, a2, b2], ?_⟩
      rw [PyData.depthAll]; omega
  intro n
  induction n with
  | zero =>
    intro d h
    cases d <;> simp_all [okD, plain, PyData.canLay0, PyData.depth]
  | succ n ih =>
    intro d h
    cases d with
    | none => exact ⟨rfl, rfl, Nat.zero_le _⟩
    | bool b => exact ⟨rfl, rfl, Nat.zero_le _⟩
    | int i => exact ⟨rfl, rfl, Nat.zero_le _⟩
    | str x => simp [okD] at h
    | dict kvs => simp [okD] at h
    | list xs =>
      simp only [okD] at h
      obtain ⟨a1, a2, a3⟩ := all n ih xs h
      exact ⟨by simpa [plain] using a1, by simpa [PyData.canLay0] using a2, by rw [PyData.depth]; omega⟩
    | tuple xs =>
      simp only [okD] at h
      obtain ⟨a1, a2, a3⟩ := all n ih xs h
      exact ⟨by simpa [plain] using a1, by simpa [PyData.canLay0] using a2, by rw [PyData.depth]; omega⟩
theorem okD_all (n : Nat) (xs : List PyData) (h : xs.all (okD n) = true) : plains xs = true ∧ PyData.canLayAll0 xs = true ∧ PyData.depthAll xs ≤ n := by
  obtain ⟨a, b, c⟩ := okD_lay (n + 1) (.tuple xs) (by simpa [okD] using h)
  exact ⟨by simpa [plain] using a, by simpa [PyData.canLay0] using b, by rw [PyData.depth] at c; omega⟩
theorem okD_shaped {n : Nat} {d : PyData} (h : okD n d = true) (hn : n ≤ 64) : SeqAt.shaped d = true := by
  obtain ⟨_, b, c⟩ := okD_lay n d h
  unfold SeqAt.shaped; rw [b, Bool.true_and]; exact decide_eq_true (Nat.le_trans c hn)

theorem fits_iff {a : Int} (h : fits a = true) : -(2 ^ 63) < a ∧ a < 2 ^ 63 := by
  unfold fits big at h
  simp only [Bool.and_eq_true, decide_eq_true_eq] at h
  omega
theorem Res.guard_eq {α : Type} {b : Bool} {r : Res α} : Res.guard b r = (if b = true then r else .bad) := by cases b <;> rfl

theorem guard_ok {α : Type} {b : Bool} {r : Res α} {a : α} (h : Res.guard b r = .ok a) : b = true ∧ r = .ok a := by cases b <;> simp_all [Res.guard]
theorem bind_ok {α β : Type} {r : Res α} {f : α → Res β} {b : β} (h : r.bind f = .ok b) : ∃ a, r = .ok a ∧ f a = .ok b := by cases r <;> simp_all [Res.bind]

section
variable {prog : Program} {w : World} {A : Around} {E : Value → Shared → Prop} {s : Shared} {z : Kept} {Q : Value → Shared → Prop}

theorem sizeLine_ge : szMax ≤ sizeLine := by rw [sizeLine_eq]; decide

theorem binop_rule {op : Operator} {a b : Value} {x y d : PyData} (h : binop op x y = .ok d) (ra : Rep prog w z a x) (rb : Rep prog w z b y) (on : z.on s.heap)
    (hQ : ∀ v z' h' tk, Ext z z' s.heap h' → Rep prog w z' v d → Q v { s with heap := h', toks := tk }) : wpAny (model prog w) A (binaryOp op a b) Q E s := by
  have num : ∀ k t, d = .int k → Q (.int k t) { s with toks := s.toks + 1 } := fun k t e => hQ (.int k t) z s.heap _ (.refl on) (e ▸ .int k t)
  cases op with
  | Add =>
    rcases lists_ok h with ⟨xs, ys, rfl, rfl, h⟩ | h
    · cases ra with
      | list a1 a2 a3 =>
      cases rb with
      | list b1 b2 b3 =>
      rename_i va na _ vb nb
      obtain ⟨hg, h⟩ := guard_ok h; cases h
      simp only [decide_eq_true_eq] at hg
      have l1 := a3.length; have l2 := b3.length
      have hz := sizeLine_ge
      refine P.add_list (on _ _ a1) (on _ _ b1) ?_ (by simp only [List.size_toArray]; omega)
      refine hQ _ _ _ _ (Ext.push on) (.list (n := 0) (vs := va ++ vb) (by rw [Kept.put_self]; unfold lstO; simp) (by rw [List.length_append]; omega) ?_)
      exact (a3.append b3).mono (Kept.put_le (none_of_on on (get_size_none _)))
    · obtain ⟨i, j, rfl, rfl, h⟩ := nums_ok h
      cases ra; cases rb; cases h; exact P.add_int (num _ _ rfl)
  | Sub =>
    obtain ⟨i, j, rfl, rfl, h⟩ := nums_ok h
    cases ra; cases rb; cases h; exact P.sub_int (num _ _ rfl)
  | Mult =>
    obtain ⟨i, j, rfl, rfl, h⟩ := nums_ok h
    cases ra; cases rb
    obtain ⟨hg, h⟩ := guard_ok h; cases h
    simp only [Bool.and_eq_true] at hg
    have f1 := fits_iff hg.1
    exact P.mul_int (num _ _ rfl) (IntMulOk.of_left (intBits_le_64 (by omega) (by omega)))
  | FloorDiv =>
    obtain ⟨i, j, rfl, rfl, h⟩ := nums_ok h
    cases ra; cases rb
    obtain ⟨hg, h⟩ := guard_ok h; cases h
    simp only [Bool.and_eq_true, decide_eq_true_eq] at hg
    refine floordiv_int hg.1 (num _ _ rfl) (.inl (PyProof.noPylong_small (by unfold small at hg; simp only [Bool.and_eq_true, decide_eq_true_eq] at hg; omega)))
  | Mod =>
    obtain ⟨i, j, rfl, rfl, h⟩ := nums_ok h
    cases ra; cases rb
    obtain ⟨hg, h⟩ := guard_ok h; cases h
    simp only [decide_eq_true_eq] at hg
    exact mod_int' hg (num _ _ rfl)
  | _ => cases h

theorem Shal.reads {v : Value} {d : PyData} (on : z.on s.heap) (p : plain d = true) : Shal prog w z s.heap v d → ∃ as, Reads s.heap v d as
  | .rep r => r.reads on p
  | .list h1 _ h3 => by
    simp only [plain] at p
    obtain ⟨as, r⟩ := h3.reads on p
    exact ⟨_, reads_list_at h1 rfl rfl (by simpa using r)⟩
  | .dict .. => by simp [plain] at p

theorem mem_rule {a b : Value} {x : PyData} {y : PyData} {xs : List PyData} {c : Bool} (hy : y = .tuple xs ∨ y = .list xs) (h : memD x xs = .ok c) (ra : Rep prog w z a x) (rb : Shal prog w z s.heap b y) (on : z.on s.heap)
    (hu : A.units + 64 < cLine) (hQ : Q (.bool c) s) : wpAny (model prog w) A (compareOp .In a b) Q E s := by
  obtain ⟨hg, h⟩ := guard_ok h; cases h
  simp only [Bool.and_eq_true] at hg
  obtain ⟨p1, l1, d1⟩ := okD_lay 7 x hg.1
  obtain ⟨p2, l2, d2⟩ := okD_all 7 xs hg.2
  obtain ⟨as, r1⟩ := ra.reads on p1
  rcases hy with rfl | rfl
  · obtain ⟨bs, r2⟩ := rb.reads on (by simpa [plain] using p2)
    exact SeqAt.in_tuple_reads r2 r1 l2 l1 (by omega) hQ
  · obtain ⟨bs, r2⟩ := rb.reads on (by simpa [plain] using p2)
    exact SeqAt.in_list_reads r2 r1 l2 l1 (by omega) hQ

theorem cmp_rule {op : CmpOp} {a b : Value} {x y : PyData} {c : Bool} (h : cmp1 op x y = .ok c) (ra : Rep prog w z a x) (rb : Shal prog w z s.heap b y) (on : z.on s.heap) (hu : A.units + 64 < cLine)
    (hQ : Q (.bool c) s) : wpAny (model prog w) A (compareOp op a b) Q E s := by
  have gen : ∀ {a b : Value} {x y : PyData} {c : Bool}, Res.guard (okD 8 x && okD 8 y) (.ok (PyData.eqv x y)) = .ok c → Rep prog w z a x → Shal prog w z s.heap b y → Q (.bool c) s → wpAny (model prog w) A (compareOp .Eq a b) Q E s := by
    intro a b x y c h ra rb hQ
    obtain ⟨hg, h⟩ := guard_ok h; cases h
    simp only [Bool.and_eq_true] at hg
    obtain ⟨as, r1⟩ := ra.reads on (okD_lay 8 x hg.1).1
    obtain ⟨bs, r2⟩ := rb.reads on (okD_lay 8 y hg.2).1
    exact eq_dataH r1 r2 (okD_shaped hg.1 (by decide)) (okD_shaped hg.2 (by decide)) hu hQ
  cases op with
  | Lt =>
    obtain ⟨i, j, rfl, rfl, h⟩ := nums_ok h
    cases ra; cases rb with | rep rb => cases rb; cases h; exact P.lt_int hQ
  | LtE =>
    obtain ⟨i, j, rfl, rfl, h⟩ := nums_ok h
    cases ra; cases rb with | rep rb => cases rb; cases h; exact P.le_int hQ
  | Gt =>
    obtain ⟨i, j, rfl, rfl, h⟩ := nums_ok h
    cases ra; cases rb with | rep rb => cases rb; cases h; exact P.gt_int hQ
  | GtE =>
    obtain ⟨i, j, rfl, rfl, h⟩ := nums_ok h
    cases ra; cases rb with | rep rb => cases rb; cases h; exact P.ge_int hQ
  | NotEq =>
    obtain ⟨i, j, rfl, rfl, h⟩ := nums_ok h
    cases ra; cases rb with | rep rb => cases rb; cases h; exact P.ne_int hQ
  | Eq =>
    rcases numsOr_ok h with ⟨i, j, rfl, rfl, h⟩ | h
    · cases ra; cases rb with | rep rb => cases rb; cases h; exact P.eq_int hQ
    · exact gen h ra rb hQ
  | In => cases y with
    | tuple xs => exact mem_rule (.inl rfl) h ra rb on hu hQ
    | list xs => exact mem_rule (.inr rfl) h ra rb on hu hQ
    | _ => cases h
  | _ => cases h

theorem truth_rule {v : Value} {d : PyData} {b : Bool} {Q : Bool → Shared → Prop} (h : truth d = .ok b) (r : Shal prog w z s.heap v d) (on : z.on s.heap) (hQ : ∀ tk, Q b { s with toks := tk }) : wpAny (model prog w) A (truthy v) Q E s := by
  have lst : ∀ {a : Addr} {vs : List Value} {n : Nat} {ds : List PyData}, s.heap.get? a = some (lstO vs n) → vs.length ≤ sizeLine → Reps prog w z vs ds → truth (.list ds) = .ok b → wpAny (model prog w) A (truthy (.ref a)) Q E s := by
    intro a vs n ds h1 h2 h3 h
    cases h
    rw [sizeLine_eq] at h2
    refine wpAny_truthy_list (items := vs.toArray) ⟨_, h1, rfl, n, rfl⟩ (by simp only [List.size_toArray]; omega) ?_
    have e : (!vs.toArray.isEmpty) = !ds.isEmpty := by
      have := h3.length
      cases vs <;> cases ds <;> simp_all
    rw [e]; exact hQ _
  unfold truth at h
  split at h
  · cases r with | rep r => cases r; cases h; exact truthy_none (hQ s.toks)
  · cases r with | rep r => cases r; cases h; exact wpAny_truthy_bool (hQ s.toks)
  · cases r with | rep r => cases r; cases h; exact P.truthy_int (hQ s.toks)
  · cases r with
    | rep r => cases r with | list h1 h2 h3 => exact lst (on _ _ h1) h2 h3 h
    | list h1 h2 h3 => exact lst h1 h2 h3 h
  · cases h

theorem RepKV.find {kvs : List (Int × Value)} {ds : List (PyData × PyData)} (h : RepKV prog w z kvs ds) {k : Int} {e : PyData × PyData}
    (f : (ds.find? fun e => match e.1 with | .int i => i == k | _ => false) = some e) : ∃ v, valueAt kvs k = some v ∧ Rep prog w z v e.2 := by
  induction kvs generalizing ds with
  | nil => cases h; simp at f
  | cons kv r ih =>
    cases h with
    | cons h1 h2 =>
      rename_i i v d ds
      by_cases q : i = k
      · subst q
        simp at f; subst f
        exact ⟨v, by simp [valueAt], h1⟩
      · have q' : (i == k) = false := by simpa using q
        simp only [List.find?_cons, q'] at f
        obtain ⟨v', e1, e2⟩ := ih h2 f
        refine ⟨v', ?_, e2⟩
        unfold valueAt at e1 ⊢
        simpa [List.find?_cons, q] using e1

theorem index_rule {value slice : Expr} {o i : Value} {x k d : PyData} (h : index x k = .ok d) (ro : Shal prog w z s.heap o x) (ri : Rep prog w z i k) (on : z.on s.heap)
    (hs : ∀ o i, subscripted slice false o i = operate [o, i] (getItem o i)) (hQ : ∀ v tk, Rep prog w z v d → Q v { s with toks := tk }) : wpAny (model prog w) A (subscriptTail value slice o i) Q E s := by
  have lst : ∀ {a : Addr} {vs : List Value} {n : Nat} {ds : List PyData} {j : Int} {t : Tok}, s.heap.get? a = some (lstO vs n) → vs.length ≤ sizeLine → Reps prog w z vs ds → index (.list ds) (.int j) = .ok d → wpAny (model prog w) A (subscriptTail value slice (.ref a) (.int j t)) Q E s := by
    intro a vs n ds j t h1 h2 h3 h
    unfold index at h
    simp only at h
    split at h
    · rename_i h0
      split at h
      · rename_i d' hd; cases h
        obtain ⟨v, e, r⟩ := h3.get hd
        have hlt := (List.getElem?_eq_some_iff.mp e).1
        rw [sizeLine_eq] at h2
        have hL : s.heap.IsList a vs.toArray := ⟨_, h1, rfl, n, rfl⟩
        exact tail_any hL.typeIs slot_list_getitem.lookup (wpAny_getItem_list hL h0 (by omega) (by simpa using e) (hQ v s.toks r)) (hs _ _)
      · cases h
    · cases h
  have dct : ∀ {a : Addr} {ob : Obj} {kvs : List (Int × Value)} {ds : List (PyData × PyData)} {j : Int} {t : Tok}, s.heap.get? a = some ob → ob.IsDictOf (intKind prog w) kvs → RepKV prog w z kvs ds → index (.dict ds) (.int j) = .ok d → wpAny (model prog w) A (subscriptTail value slice (.ref a) (.int j t)) Q E s := by
    intro a ob kvs ds j t h1 h2 h3 h
    unfold index at h
    simp only at h
    split at h
    · rename_i e he; cases h
      obtain ⟨v, e1, r⟩ := h3.find he
      have hm := (Heap.dictOf_iff.mpr ⟨ob, h1, h2⟩ : s.heap.DictOf (intKind prog w) a kvs).mapOf
      exact tail_any hm.typeIs slot_dict_getitem.lookup (wpAny_getItem_of (intKind_is prog w j t) hm e1 (hQ v _ r)) (hs _ _)
    · cases h
  cases ro with
  | rep ro =>
    cases ro with
    | @tuple a vs n ds h1 h2 h3 =>
      cases k with
      | int j =>
        cases ri with | int _ t =>
        unfold index at h
        simp only at h
        split at h
        · rename_i h0
          split at h
          · rename_i d' hd; cases h
            obtain ⟨v, e, r⟩ := h3.get hd
            have hlt := (List.getElem?_eq_some_iff.mp e).1
            rw [sizeLine_eq] at h2
            have hj : seqIndex? j vs.length = some j.toNat := seqIndex_of h0 (by omega)
            have hT : IsTup s.heap a vs.toArray := ⟨_, on _ _ h1, rfl, n, rfl⟩
            exact tail_any hT.typeIs slot_tuple_getitem.lookup (getItem_tuple hT (by omega) (by omega) (by simpa using hj) (by simpa using e) (hQ v s.toks r)) (hs _ _)
          · cases h
        · cases h
      | _ => cases h
    | list h1 h2 h3 =>
      cases k with
      | int j => cases ri; exact lst (on _ _ h1) h2 h3 h
      | _ => cases h
    | dict h1 h2 h3 =>
      cases k with
      | int j => cases ri; exact dct (on _ _ h1) h2 h3 h
      | _ => cases h
    | _ => cases h
  | list h1 h2 h3 =>
    cases k with
    | int j => cases ri; exact lst h1 h2 h3 h
    | _ => cases h
  | dict h1 h2 h3 =>
    cases k with
    | int j => cases ri; exact dct h1 h2 h3 h
    | _ => cases h
end
end
section
section
variable {prog : Program} {w : World} {A : Around} {E : Value → Shared → Prop} {s : Shared} {z : Kept} {Q : Value → Shared → Prop}

theorem none_of_keep {h h' : Heap} (k : ∀ a o, h.get? a = some o → h'.get? a = some o) {a : Addr} (e : h'.get? a = none) : h.get? a = none := by
  cases q : h.get? a with
  | none => rfl
  | some o => have := k a o q; rw [e] at this; cases this

-- tuples cut at both ends
theorem adjust_both (a b n : Nat) (ha : a ≤ n) (hb : b ≤ n) : Builtin.Slice.sliceAdjust (some (a : Int)) (some (b : Int)) 1 (n : Int) = ((a : Int), (b : Int)) := by
  unfold Builtin.Slice.sliceAdjust
  have h1 : ¬ ((1 : Int) < 0) := by omega
  have h2 : ¬ ((a : Int) < 0) := by omega
  have h3 : ¬ ((b : Int) < 0) := by omega
  simp only [h1, h2, h3, if_false]
  congr 1 <;> omega
theorem places_both (a b : Nat) : Builtin.Slice.slicePlaces (a : Int) (b : Int) 1 = b - a := by
  unfold Builtin.Slice.slicePlaces
  have h1 : (1 : Int) > 0 := by omega
  simp only [h1, if_true, Int.ediv_one]
  split <;> omega
theorem sliceApplied_both {sl : Addr} {a b n : Nat} {u u' : Tok} {Q : Int × Int × Nat → Shared → Prop} (hs : s.heap.IsSliceOf sl (.int a u) (.int b u') .none) (ha : a ≤ n) (hb : b ≤ n) (h : Q ((a : Int), 1, b - a) s) :
    wpAny (model prog w) A (Builtin.Slice.sliceApplied (.ref sl) (pure (n : Int))) Q E s := by
  obtain ⟨os, hos, hcs, hds⟩ := id hs
  unfold Builtin.Slice.sliceApplied Builtin.Slice.sliceFields
  refine wpAny_bind (wpAny_bind (wpAny_field hos hds (x := .int a u) rfl (wpAny_bind (wpAny_field hos hds (x := .int b u') rfl (wpAny_bind (wpAny_field hos hds (x := .none) rfl (wpAny_pure ?_)))))))
  refine wpAny_bind (slicePart_none ?_)
  show wpAny _ _ (if ((1 : Int) == 0) = true then _ else _) _ _ s
  rw [if_neg (by decide)]
  refine wpAny_bind (slicePart_int (wpAny_bind (slicePart_int (wpAny_bind (wpAny_pure ?_)))))
  show wpAny _ _ (match Builtin.Slice.sliceAdjust (some (a : Int)) (some (b : Int)) 1 (n : Int) with | (lo, hi) => pure (lo, (1 : Int), Builtin.Slice.slicePlaces lo hi 1)) _ _ s
  rw [adjust_both a b n ha hb]
  show wpAny _ _ (pure ((a : Int), (1 : Int), Builtin.Slice.slicePlaces (a : Int) (b : Int) 1)) _ _ s
  rw [places_both a b]
  exact wpAny_pure h
theorem pick_both (xs : Array Value) (a b : Nat) : ((List.range (b - a)).filterMap fun (k : Nat) => xs[((a : Int) + (k : Int) * 1).toNat]?).toArray = ((xs.toList.drop a).take (b - a)).toArray := by
  have e : (fun (k : Nat) => xs[((a : Int) + (k : Int) * 1).toNat]?) = fun k => xs[a + k]? := by
    funext k
    have : ((a : Int) + (k : Int) * 1).toNat = a + k := by omega
    rw [this]
  rw [e]
  have := pick_run xs a (b - a)
  rw [List.filterMap_map] at this
  have e2 : ((fun x => xs[x]?) ∘ fun x => a + x) = fun k => xs[a + k]? := rfl
  rw [e2] at this
  rw [this]
theorem getItem_tuple_both {t sl : Addr} {items : Array Value} {a b : Nat} {u u' : Tok} (ht : IsTup s.heap t items) (hs : s.heap.IsSliceOf sl (.int a u) (.int b u') .none) (h1 : 1 ≤ a) (hab : a ≤ b) (hb : b ≤ items.size)
    (h : Q (.ref s.heap.objs.size) { s with heap := s.heap.push { cls := .type "tuple", data := .seq ((items.toList.drop a).take (b - a)).toArray } })
    (hsz : items.size ≤ sizeLine) : wpAny (model prog w) A (getItem (.ref t) (.ref sl)) Q E s := by
  have hdrop : sizeOk (.seq ((items.toList.drop a).take (b - a)).toArray) := by
    show ((items.toList.drop a).take (b - a)).toArray.size ≤ sizeLine
    rw [List.size_toArray, List.length_take, List.length_drop, Array.length_toList]
    omega
  obtain ⟨os, hos, hcs, hds⟩ := id hs
  have hTs : s.TypeIs (.ref sl) "slice" := ⟨os, hos, hcs⟩
  unfold getItem
  try with_reducible refine wpAny_holding ?_
  first | refine wpAny_bind (wpAny_pure ?_) | skip
  refine wpAny_bind (wpAny_sequenceKey ht.typeIs (by decide) ?_)
  refine wpAny_bind (wpAny_callSpecial?_slot (name := Str.ofString "__getitem__") ht.typeIs slot_tuple_getitem
    (wpAny_call_entry slot_tuple_getitem ht.typeIs entry_tuple_getitem ?_ (args_tuple_getitem _ _)))
  show wpAny _ _ (Builtin.Tuple.tupleItemsOf (.ref t) >>= _) _ _ s
  refine wpAny_bind (tupleItemsOf_ ht ?_)
  refine wpAny_bind (wpAny_typeOf hTs ?_)
  rw [if_pos (by decide)]
  refine wpAny_bind (sliceApplied_both hs (by omega) hb ?_)
  have hno : ¬ (((a : Int) == 0 && (1 : Int) == 1 && (b - a) == items.size) = true) := by
    have : ((a : Int) == 0) = false := by rw [beq_eq_false_iff_ne]; omega
    rw [this]; simp
  show wpAny _ _ (if ((a : Int) == 0 && (1 : Int) == 1 && (b - a) == items.size) = true then _ else _) _ _ s
  rw [if_neg hno, pick_both items a b]
  first
    | exact wpAny_bind (m := Builtin.Tuple.tupleExact _) (wpAny_newObj_type (wpAny_pure ⟨_, rfl, wpAny_pure h⟩) hdrop)
    | exact wpAny_bind (m := Builtin.Tuple.tupleExact _) (wpAny_newObj_type (wpAny_bind (wpAny_pure (wpAny_pure ⟨_, rfl, wpAny_pure h⟩))) hdrop)
    | exact wpAny_bind (wpAny_bind (m := Builtin.Tuple.tupleExact _) (wpAny_newObj_type (wpAny_pure (wpAny_pure ⟨_, rfl, wpAny_pure h⟩)) hdrop))
    | exact wpAny_bind (wpAny_bind (m := Builtin.Tuple.tupleExact _) (wpAny_newObj_type (wpAny_pure ⟨_, rfl, wpAny_pure h⟩) hdrop))

theorem drop_take {α : Type} (l : List α) (a b : Nat) : (l.drop a).take (b - a) = (l.take b).drop a := by
  rw [List.drop_take]

theorem slice_rule {value : Expr} {p p1 p2 pos : Pos} {k1 k2 : Nat} {lo hi : Int} {env : Env} {z₀ : Kept}
    (hv : wpAny (model prog w) A (eval value env) (fun o s₁ => ∃ x z₁ d, slice x lo hi = .ok d ∧ Shal prog w z₁ s₁.heap o x ∧ Ext z₀ z₁ s.heap s₁.heap ∧
      ∀ v z' h' tk, Ext z₁ z' s₁.heap h' → Rep prog w z' v d → Q v { s₁ with heap := h', toks := tk }) E s) :
    wpAny (model prog w) A (eval (.Subscript value (.Slice (some (.Constant (.int lo) k1 p1)) (some (.Constant (.int hi) k2 p2)) none p) pos) env) Q E s := by
  refine Subscript_ (wpAny_mono hv (fun o s₁ h₁ => ?_) fun _ _ e => e)
  obtain ⟨x, z₁, d, hsl, ho, X, hQ⟩ := h₁
  refine wpAny_Slice ?_
  rw [evalPart_some]
  refine wpAny_Constant_int ?_
  rw [evalPart_some]
  refine wpAny_Constant_int ?_
  rw [evalPart_none]
  refine wpAny_pure ?_
  have on := X.on
  have lst : ∀ {a : Addr} {vs : List Value} {n : Nat} {ds : List PyData}, s₁.heap.get? a = some (lstO vs n) → vs.length ≤ sizeLine → Reps prog w z₁ vs ds → slice (.list ds) lo hi = .ok d →
      ∀ (tk : Nat) u u', wpAny (model prog w) A (subscriptTail value (.Slice (some (.Constant (.int lo) k1 p1)) (some (.Constant (.int hi) k2 p2)) none p) (.ref a) (.ref s₁.heap.objs.size)) Q E
        { s₁ with heap := s₁.heap.push { cls := .type "slice", data := .fields #[.int lo u, .int hi u', .none] }, toks := tk } := by
    intro a vs n ds h1 h2 h3 hsl tk u u'
    obtain ⟨hg, hsl⟩ := guard_ok hsl; cases hsl
    simp only [Bool.and_eq_true, decide_eq_true_eq] at hg
    have hl : (s₁.heap.push { cls := .type "slice", data := .fields #[.int lo u, .int hi u', .none] }).IsList a vs.toArray := ⟨_, Heap.get?_push_of_some _ h1, rfl, n, rfl⟩
    refine tail_any (s := { s₁ with heap := s₁.heap.push { cls := .type "slice", data := .fields #[.int lo u, .int hi u', .none] }, toks := tk }) hl.typeIs slot_list_getitem.lookup
      (wpAny_getItem_list_slice (s := { s₁ with heap := s₁.heap.push { cls := .type "slice", data := .fields #[.int lo u, .int hi u', .none] }, toks := tk }) hl (Heap.IsSliceOf.new ..) (.int lo u) (.int hi u') .none (by intro q; cases q) ?_ (by simpa using h2)) (by with_unfolding_all rfl)
    have e : slicePick vs.toArray (some lo) (some hi) none = ((vs.take hi.toNat).drop lo.toNat).toArray := by
      have e1 : lo = ((lo.toNat : Nat) : Int) := by omega
      have e2 : hi = ((hi.toNat : Nat) : Int) := by omega
      rw [slicePick_plain]
      simp only [Option.elim]
      conv => lhs; rw [e1, e2]
      rw [clipAt_nat, clipAt_nat, List.size_toArray]
      rw [drop_take]
      congr 1
      rw [← List.take_eq_take_min]
      by_cases c : lo.toNat ≤ vs.length
      · rw [Nat.min_eq_left c]
      · rw [Nat.min_eq_right (by omega), List.drop_of_length_le (by rw [List.length_take]; omega), List.drop_of_length_le (by rw [List.length_take]; omega)]
    have o1 : z₁.on (s₁.heap.push { cls := .type "slice", data := .fields #[.int lo u, .int hi u', .none] }) := fun b o q => Heap.get?_push_of_some _ (on b o q)
    have X1 : Ext z₁ z₁ s₁.heap (s₁.heap.push { cls := .type "slice", data := .fields #[.int lo u, .int hi u', .none] }) := Ext.heap on fun b o q => Heap.get?_push_of_some _ q
    refine hQ _ _ _ tk (X1.trans (Ext.push o1)) (.list (n := 0) (vs := (vs.take hi.toNat).drop lo.toNat) (by rw [Kept.put_self]; unfold lstO; rw [e]) (by rw [List.length_drop, List.length_take]; omega) ?_)
    exact ((h3.take _).drop _).mono (Kept.put_le (none_of_on o1 (get_size_none _)))
  cases ho with
  | list h1 h2 h3 => exact lst h1 h2 h3 hsl _ _ _
  | dict _ _ _ => cases hsl
  | rep ho =>
    cases ho with
    | list h1 h2 h3 => exact lst (on _ _ h1) h2 h3 hsl _ _ _
    | @tuple a vs n ds h1 h2 h3 =>
      obtain ⟨hg, hsl⟩ := guard_ok hsl; cases hsl
      simp only [Bool.and_eq_true, decide_eq_true_eq] at hg
      have hlen := h3.length
      obtain ⟨a', rfl⟩ : ∃ n : Nat, lo = n := ⟨lo.toNat, by omega⟩
      obtain ⟨b', rfl⟩ : ∃ n : Nat, hi = n := ⟨hi.toNat, by omega⟩
      have hT : ∀ o : Obj, IsTup (s₁.heap.push o) a vs.toArray := fun o => ⟨_, Heap.get?_push_of_some _ (on _ _ h1), rfl, n, rfl⟩
      refine tail_any (s := { s₁ with heap := _, toks := _ }) (hT _).typeIs slot_tuple_getitem.lookup
        (getItem_tuple_both (s := { s₁ with heap := _, toks := _ }) (hT _) (Heap.IsSliceOf.new ..) (by omega) (by omega) (by simp only [List.size_toArray]; omega) ?_ (by simpa using h2)) (by with_unfolding_all rfl)
      have o1 : ∀ o : Obj, z₁.on (s₁.heap.push o) := fun o b ob q => Heap.get?_push_of_some _ (on b ob q)
      have X1 : ∀ o : Obj, Ext z₁ z₁ s₁.heap (s₁.heap.push o) := fun o => Ext.heap on fun b ob q => Heap.get?_push_of_some _ q
      refine hQ _ _ _ _ ((X1 _).trans (Ext.push (o1 _))) (.tuple (n := 0) (vs := (vs.take b').drop a') (by rw [Kept.put_self]; unfold tupO; rw [drop_take]) (by rw [List.length_drop, List.length_take]; omega) ?_)
      exact ((h3.take _).drop _).mono (Kept.put_le (none_of_on (o1 _) (get_size_none _)))
    | none => cases hsl
    | bool => cases hsl
    | int => cases hsl
    | str => cases hsl
    | dict _ _ _ => cases hsl
end
end
section
section
variable {prog : Program} {w : World} {A : Around} {E : Value → Shared → Prop} {s : Shared} {z : Kept} {Q : Value → Shared → Prop}

variable (prog w) in
/-- what can be gone through: its items; fz: the thing itself is kept -/
inductive Src (z : Kept) (h : Heap) (fz : Bool) : Value → List PyData → Prop
  | list {v : Value} {ds : List PyData} : Shal prog w z h v (.list ds) → (fz = true → Rep prog w z v (.list ds)) → Src z h fz v ds
  | tuple {v : Value} {ds : List PyData} : Rep prog w z v (.tuple ds) → Src z h fz v ds
  | range {r : Addr} {k : Int} {t u x : Tok} : IsRange h r 0 k 1 t u x → small k = true → k ≤ szMax → Src z h fz (.ref r) (rangeD k)

theorem rangeD_length (k : Int) : (rangeD k).length = k.toNat := by unfold rangeD; simp
theorem rangeD_get {k : Int} {i : Nat} (h : i < k.toNat) : (rangeD k)[i]? = some (.int (i : Int)) := by unfold rangeD; simp [h]

theorem Shal.listAt {h : Heap} {v : Value} {ds : List PyData} (on : z.on h) (r : Shal prog w z h v (.list ds)) : ∃ a vs n, v = .ref a ∧ h.get? a = some (lstO vs n) ∧ vs.length ≤ sizeLine ∧ Reps prog w z vs ds := by
  cases r with
  | rep r => cases r with | list h1 h2 h3 => exact ⟨_, _, _, rfl, on _ _ h1, h2, h3⟩
  | list h1 h2 h3 => exact ⟨_, _, _, rfl, h1, h2, h3⟩

theorem iter_rule {fz : Bool} {v : Value} {ds : List PyData} (hh : A.handled = none) (on : z.on s.heap) (S : Src prog w z s.heap fz v ds)
    (hQ : ∀ (I : Addr) (fp : List Addr) (P : Nat → Value → Prop) (St : Nat → Heap → Prop) (h' : Heap), Walks prog w A I fp [I] ds.length P St → St 0 h' → s.heap.get? I = none → (∀ i h, St i h → ∃ o, h.get? I = some o ∧ ∀ v, o.data ≠ .cell v) →
      (∀ a o, s.heap.get? a = some o → h'.get? a = some o) → (∀ b ∈ fp, b ≠ I → ∃ o, s.heap.get? b = some o ∧ (fz = true → z b = some o)) →
      (∀ i v, i < ds.length → P i v → ∃ d, ds[i]? = some d ∧ Rep prog w z v d) → Q (.ref I) { s with heap := h' }) : wpAny (model prog w) A (pyIter v) Q E s := by
  have nth : ∀ {vs : List Value} {ds : List PyData}, Reps prog w z vs ds → ∀ i v, i < ds.length → vs.toArray[i]? = some v → ∃ d, ds[i]? = some d ∧ Rep prog w z v d := by
    intro vs ds R i v hi hv
    obtain ⟨v', e, r⟩ := R.get (i := i) (d := ds[i]) (by simp [hi])
    rw [List.getElem?_toArray] at hv
    rw [e] at hv; cases hv
    exact ⟨_, by simp [hi], r⟩
  cases S with
  | list sh hz =>
    obtain ⟨a, vs, n, rfl, h1, h2, h3⟩ := sh.listAt on
    have hne : a ≠ s.heap.objs.size := Nat.ne_of_lt (Heap.lt_size h1)
    have hl : s.heap.IsList a vs.toArray := ⟨_, h1, rfl, n, rfl⟩
    refine wpAny_pyIter_list hl (hQ s.heap.objs.size [s.heap.objs.size, a] _ (fun i h => h.IsListIter s.heap.objs.size a i ∧ h.IsList a vs.toArray) _ ?_ ⟨⟨_, Heap.get?_push_size _ rfl, rfl, rfl⟩, hl.push _⟩ (get_size_none _) (fun _ _ st => let ⟨o, ho, _, hd⟩ := st.1; ⟨o, ho, fun v e => by rw [hd] at e; cases e⟩) (fun b o e => Heap.get?_push_of_some _ e) ?_ (nth h3))
    · have hsz : vs.toArray.size = ds.length := (List.size_toArray (as := vs)).trans h3.length
      exact hsz ▸ Walks.list (prog := prog) (w := w) hh s.heap.objs.size a hne vs.toArray
    · intro b hb hbI
      have : b = a := by simpa [hbI] using hb
      subst this
      refine ⟨_, h1, fun q => ?_⟩
      cases hz q with | list k1 k2 k3 => have := on _ _ k1; rw [h1] at this; rw [k1, this]
  | tuple r =>
    cases r with
    | @tuple a vs n _ h1 h2 h3 =>
      have hne : a ≠ s.heap.objs.size := Nat.ne_of_lt (Heap.lt_size (on _ _ h1))
      have hl : s.heap.IsTuple a vs.toArray := ⟨_, on _ _ h1, rfl, n, rfl⟩
      refine wpAny_pyIter_tuple hl (hQ s.heap.objs.size [s.heap.objs.size, a] _ (fun i h => h.IsTupleIter s.heap.objs.size a i ∧ h.IsTuple a vs.toArray) _ ?_ ⟨⟨_, Heap.get?_push_size _ rfl, rfl, rfl⟩, hl.push _⟩ (get_size_none _) (fun _ _ st => let ⟨o, ho, _, hd⟩ := st.1; ⟨o, ho, fun v e => by rw [hd] at e; cases e⟩) (fun b o e => Heap.get?_push_of_some _ e) ?_ (nth h3))
      · have hsz : vs.toArray.size = ds.length := (List.size_toArray (as := vs)).trans h3.length
        exact hsz ▸ Walks.tuple (prog := prog) (w := w) hh s.heap.objs.size a hne vs.toArray
      · intro b hb hbI
        have : b = a := by simpa [hbI] using hb
        subst this
        exact ⟨_, on _ _ h1, fun _ => h1⟩
  | @range r k t u x h1 h2 h3 =>
    have hk : -1000000000 < k ∧ k < 1000000000 := by unfold small at h2; simpa using h2
    have hsz : Builtin.Range.rangeSize 0 k 1 = ((k.toNat : Nat) : Int) := by rw [rangeSize_nat]; simp
    refine wpAny_pyIter_range h1 (small_one (by omega) (by omega) (by omega) (by omega)) (hQ s.heap.objs.size [s.heap.objs.size] (fun i v => ∃ t, v = .int (0 + (i : Int) * 1) t) (fun i h => IsRangeIter h s.heap.objs.size (0 + (i : Nat) * 1) ((k.toNat : Int) - (i : Nat)) 1) _ ?_ ?_ (get_size_none _) (fun _ _ st => ⟨_, st, fun v e => by cases e⟩) (fun b o e => Heap.get?_push_of_some _ e) ?_ ?_)
    · have := Walks.range (prog := prog) (w := w) hh s.heap.objs.size 0 1 k.toNat
      rw [rangeD_length]; exact this
    · rw [hsz]; exact Heap.get?_push_size _ rfl
    · intro b hb hbI; simp [hbI] at hb
    · intro i v hi ⟨t, hv⟩
      rw [rangeD_length] at hi
      subst hv
      exact ⟨_, rangeD_get hi, by have : (0 : Int) + (i : Int) * 1 = i := by omega
                                  rw [this]; exact .int _ _⟩

theorem list_rule {fz : Bool} {v : Value} {ds : List PyData} (hh : A.handled = none) (on : z.on s.heap) (S : Src prog w z s.heap fz v ds)
    (hQ : ∀ v z' h' tk, Ext z z' s.heap h' → Rep prog w z' v (.list ds) → Q v { s with heap := h', toks := tk }) : wpAny (model prog w) A (call (.type "list") [v]) Q E s := by
  have fin : ∀ (vs : List Value) (h' : Heap) (c tk : Nat), (∀ b o, s.heap.get? b = some o → h'.get? b = some o) → h'.get? s.heap.objs.size = some (lstO vs c) → vs.length ≤ sizeLine → Reps prog w z vs ds → Q (.ref s.heap.objs.size) { s with heap := h', toks := tk } := by
    intro vs h' c tk hk hD hl hr
    have X : Ext z (z.put s.heap.objs.size (lstO vs c)) s.heap h' := Ext.put (Ext.heap on hk) (get_size_none _) (none_of_on on (get_size_none _)) hD
    exact hQ _ _ _ _ X (.list (Kept.put_self _ _ _) hl (hr.mono X.le))
  cases S with
  | list sh _ =>
    obtain ⟨a, vs, n, rfl, h1, h2, h3⟩ := sh.listAt on
    exact call_list_seq a (.inl rfl) h1 rfl rfl (fun h' c hk hD => fin vs h' c s.toks hk hD h2 h3) (by simpa using h2)
  | tuple r =>
    cases r with
    | @tuple a vs n _ h1 h2 h3 =>
      exact call_list_seq a (.inr rfl) (on _ _ h1) rfl rfl (fun h' c hk hD => fin vs h' c s.toks hk hD h2 h3) (by simpa using h2)
  | @range r k t u x h1 h2 h3 =>
    have hk : -1000000000 < k ∧ k < 1000000000 := by unfold small at h2; simpa using h2
    have hsz : Builtin.Range.rangeSize 0 k 1 = ((k.toNat : Nat) : Int) := by rw [rangeSize_nat]; simp
    have hle : k.toNat ≤ 2 ^ 24 := by unfold szMax at h3; omega
    refine call_list_range hh h1 (small_one (by omega) (by omega) (by omega) (by omega)) hsz hle fun h' tk acc c hk hD hit => ?_
    obtain ⟨acc⟩ := acc
    refine fin acc h' c tk hk hD (by have := hit.1; rw [List.size_toArray] at this; rw [this, sizeLine_eq]; exact hle) ?_
    have go : ∀ (n : Nat) (l : List Value), l.length = n → (∀ (j : Nat) v, l[j]? = some v → ∃ t, v = Value.int (j : Int) t) → Reps prog w z l ((List.range n).map fun (i : Nat) => PyData.int (i : Int)) := by
      intro n
      induction n with
      | zero => intro l hl _; cases l <;> simp_all; exact .nil
      | succ n ih =>
        intro l hl hP
        rw [List.range_succ, List.map_append]
        have hsplit : l = l.take n ++ l.drop n := (List.take_append_drop n l).symm
        rw [hsplit]
        refine Reps.append (ih _ (by simp [hl]) fun j v e => ?_) ?_
        · rw [List.getElem?_take] at e
          split at e
          · exact hP j v e
          · cases e
        · have hd : l.drop n = [l[n]'(by omega)] := by
            rw [List.drop_eq_getElem_cons (by omega)]
            rw [List.drop_of_length_le (by omega)]
          rw [hd]
          obtain ⟨t, ht⟩ := hP n _ (List.getElem?_eq_getElem (by omega))
          rw [ht]
          exact .cons (.int _ _) .nil
    refine go k.toNat acc (by have := hit.1; simpa using this) fun j v e => ?_
    obtain ⟨t, ht⟩ := hit.2 j v (by simpa using e)
    exact ⟨t, by rw [ht]; congr 1; omega⟩

theorem argBest_min (xs : Array (Int × Tok)) : ∀ k, k < xs.size → numAt xs (argBest (fun i j => decide (numAt xs i < numAt xs j)) k) = ((xs.toList.map (·.1)).take (k + 1)).tail.foldl min (numAt xs 0) ∧ argBest (fun i j => decide (numAt xs i < numAt xs j)) k ≤ k := by
  intro k
  induction k with
  | zero =>
    intro hk
    refine ⟨?_, Nat.le_refl _⟩
    have : ((xs.toList.map (·.1)).take (0 + 1)).tail = [] := by
      generalize xs.toList.map (·.1) = l
      cases l <;> simp
    rw [this]; rfl
  | succ k ih =>
    intro hk
    obtain ⟨e1, e2⟩ := ih (by omega)
    have hget : (xs.toList.map (·.1))[k + 1]? = some (numAt xs (k + 1)) := by
      unfold numAt
      simp [hk]
    have hl : (xs.toList.map (·.1)).length = xs.size := by simp
    have ht : ((xs.toList.map (·.1)).take (k + 1 + 1)).tail = ((xs.toList.map (·.1)).take (k + 1)).tail ++ [numAt xs (k + 1)] := by
      rw [List.take_succ, hget]
      rw [List.tail_append_of_ne_nil]
      · rfl
      · intro q
        have := congrArg List.length q
        rw [List.length_take, hl] at this
        simp only [List.length_nil] at this; omega
    rw [ht, List.foldl_append, ← e1]
    generalize hB : argBest (fun i j => decide (numAt xs i < numAt xs j)) k = B at *
    by_cases c : numAt xs (k + 1) < numAt xs B
    · have hb : argBest (fun i j => decide (numAt xs i < numAt xs j)) (k + 1) = k + 1 := by
        rw [argBest, hB]; exact if_pos (decide_eq_true c)
      rw [hb]
      simp only [List.foldl_cons, List.foldl_nil]
      exact ⟨by omega, Nat.le_refl _⟩
    · have hb : argBest (fun i j => decide (numAt xs i < numAt xs j)) (k + 1) = B := by
        rw [argBest, hB]; exact if_neg (by simpa using c)
      rw [hb]
      simp only [List.foldl_cons, List.foldl_nil]
      exact ⟨by omega, by omega⟩

theorem ints_items {vs : List Value} {ds : List PyData} {ns : List Int} (r : Reps prog w z vs ds) (e : intsOf ds = some ns) : ∃ xs : Array (Int × Tok), vs.toArray = intItems xs ∧ xs.toList.map (·.1) = ns := by
  have go : ∀ {vs : List Value} {ds : List PyData} {ns : List Int}, Reps prog w z vs ds → intsOf ds = some ns → ∃ xs : List (Int × Tok), vs = xs.map (fun p => .int p.1 p.2) ∧ xs.map (·.1) = ns := by
    intro vs
    induction vs with
    | nil => intro ds ns r e; cases r; cases e; exact ⟨[], rfl, rfl⟩
    | cons v vs ih =>
      intro ds ns r e
      cases r with
      | cons r1 r2 =>
        rename_i d ds
        cases d with
        | int i =>
          cases r1 with | int _ t =>
          simp only [intsOf, Option.map_eq_some_iff] at e
          obtain ⟨ns', e', rfl⟩ := e
          obtain ⟨xs, q1, q2⟩ := ih r2 e'
          exact ⟨(i, t) :: xs, by rw [q1]; rfl, by rw [← q2]; rfl⟩
        | _ => simp [intsOf] at e
  obtain ⟨xs, q1, q2⟩ := go r e
  exact ⟨xs.toArray, by rw [q1]; simp [intItems], by simpa using q2⟩

theorem builtin1_rule {x : Str} {f : Value} {v : Value} {d e : PyData} (hh : A.handled = none) (on : z.on s.heap) (hx : x ≠ "list") (hf : (x = "len" → f = .builtin "len") ∧ (x = "tuple" → f = .type "tuple") ∧ (x = "min" → f = .builtin "min"))
    (h : builtin1 x d = .ok e) (r : Shal prog w z s.heap v d)
    (hQ : ∀ v z' h' tk, Ext z z' s.heap h' → Rep prog w z' v e → Q v { s with heap := h', toks := tk }) : wpAny (model prog w) A (call f [v]) Q E s := by
  unfold builtin1 at h
  split at h
  · rename_i q
    rw [hf.1 q]
    split at h
    · rename_i xs
      obtain ⟨a, vs, n, rfl, h1, h2, h3⟩ := r.listAt on
      cases h
      rw [sizeLine_eq] at h2
      refine Calls.call_len_list (items := vs.toArray) ⟨_, h1, rfl, n, rfl⟩ (by simp only [List.size_toArray]; omega) ?_
      exact hQ _ z s.heap _ (.refl on) (by rw [List.size_toArray, h3.length]; exact .int _ _)
    · rename_i xs
      cases h
      cases r with | rep r =>
      cases r with
      | @tuple a vs n _ h1 h2 h3 =>
        rw [sizeLine_eq] at h2
        refine len_tuple (items := vs.toArray) ⟨_, on _ _ h1, rfl, n, rfl⟩ (by simp only [List.size_toArray]; omega) ?_
        exact hQ _ z s.heap _ (.refl on) (by rw [List.size_toArray, h3.length]; exact .int _ _)
    · cases h
  · split at h
    · rename_i q
      rw [hf.2.1 q]
      split at h
      · rename_i xs
        obtain ⟨a, vs, n, rfl, h1, h2, h3⟩ := r.listAt on
        cases h
        refine call_tuple_list (items := vs.toArray) ⟨_, h1, rfl, n, rfl⟩ (fun h' hk => ?_) (by simpa using h2)
        have on' : z.on h' := fun b o q => hk b o (on b o q)
        have X := (Ext.heap on hk).trans (Ext.push (o := tupO vs 0) on')
        exact hQ _ _ _ s.toks X (.tuple (n := 0) (Kept.put_self _ _ _) h2 (h3.mono X.le))
      · cases h
    · split at h
      · rename_i q
        rw [hf.2.2 q]
        split at h
        · rename_i xs
          split at h
          · rename_i a r' hi
            cases h
            obtain ⟨l, vs, n, rfl, h1, h2, h3⟩ := r.listAt on
            obtain ⟨ys, e1, e2⟩ := ints_items h3 hi
            have hlen : ys.size = r'.length + 1 := by rw [← Array.length_toList]; have := congrArg List.length e2; simpa using this
            refine min_intList (xs := ys) hh ⟨_, h1, rfl, n, by rw [← e1]; rfl⟩ (by omega) fun v h' tk hv hk => ?_
            obtain ⟨t, hv'⟩ := intItems_at hv
            obtain ⟨m1, _⟩ := argBest_min ys (ys.size - 1) (by omega)
            have e3 : numAt ys 0 = a := by
              unfold numAt
              have h0 : (ys.toList.map (·.1))[0]? = some a := by rw [e2]; rfl
              rw [List.getElem?_map] at h0
              simp only [Array.getElem?_toList] at h0
              rw [h0]; rfl
            have e4 : ((ys.toList.map (·.1)).take (ys.size - 1 + 1)).tail = r' := by
              rw [e2, List.take_of_length_le (by simp; omega)]; rfl
            rw [e3, e4] at m1
            rw [hv', m1]
            exact hQ _ z h' tk (Ext.heap on hk) (.int _ _)
          · cases h
        · cases h
      · cases h
end
end
section
structure Room (A : Around) (fr : List Env) (dep : Nat) : Prop where
  hh : A.handled = none
  fr : A.frames = some fr
  depth : A.depth + dep < recursionLimit
  units : A.units + 16 * dep + 128 < cLine

section
variable {M : Model} {A : Around} {E : Value → Shared → Prop} {s : Shared} {env : Env}
theorem load_rule {x : Str} {v : Value} {Q : Value → Shared → Prop} (H : Holds env s.heap x v) (hk : env.scope.kind = .function) (h : Q v s) : wpAny M A (loadName env x) Q E s := by
  rcases H with ⟨hl, m, hn, hv⟩ | ⟨hx, hl, c, hc, hv⟩
  · exact wpAny_loadName_local hk hl hn hv h
  · rcases hl with hl | hl
    · exact wpAny_loadName_cell hk hl hc hv h
    · exact wpAny_loadName_free hk hl hc hv h hx

theorem name_rule {x : Str} {pos : Pos} {v : Value} {Q : Value → Shared → Prop} (H : Holds env s.heap x v) (hk : env.scope.kind = .function) (hd : (x == ("__debug__" : Str)) = false) (h : Q v s) :
    wpAny M A (eval (.Name x pos) env) Q E s := wpAny_Name (load_rule H hk h) hd

theorem markedEach_last {op : CmpOp} {e : Expr} (he : behindInMarks op e = false) : markedEach [op] [e] (evalEach [e] env) = [eval e env] := by
  rw [arm_evalEach_cons, arm_evalEach_nil]
  show [markedBehindIn op e (eval e env)] = _
  rw [markedBehindIn_of_false he]
end

theorem behind_of {op : CmpOp} {e : Expr} (h : ∀ a b c, e ≠ .Set a b c) : behindInMarks op e = false := by
  cases e <;> first | rfl | (exact absurd rfl (h _ _ _))

section
variable {prog : Program} {w : World} {BC : Addr} {T : Tab} {dep : Nat} {base xb : Heap} {mg mb : Str → Option Value} {A : Around} {fr : List Env}
variable (prog w BC T base xb A fr)
structure Snd (n : Nat) : Prop where
  ev : ∀ sc Γ e env z s Q E, Now prog w base xb fr env sc z Γ s.heap → Fine prog w BC xb fr z s Q E (ev T n sc Γ e) → wpAny (model prog w) A (eval e env) Q E s
  evB : ∀ sc Γ e env z s Q E, Now prog w base xb fr env sc z Γ s.heap → FineG BC xb fr z s (fun z' h' v d => Shal prog w z' h' v d) Q E (evB T n sc Γ e) → wpAny (model prog w) A (eval e env) Q E s
  evs : ∀ sc Γ es env z s Q E pos, Now prog w base xb fr env sc z Γ s.heap → FineG BC xb fr z s (fun z' _ v d => Reps prog w z' v d) Q E (evs T n sc Γ es) → wpAny (model prog w) A (spliced (backTo pos (starEach es env))) Q E s
  evBool : ∀ sc Γ op es env z s Q E pos, Now prog w base xb fr env sc z Γ s.heap → Fine prog w BC xb fr z s Q E (evBool T n sc Γ op es) → wpAny (model prog w) A (boolOp pos op (evalEach es env)) Q E s
  evT : ∀ sc Γ e env z s Q E, Now prog w base xb fr env sc z Γ s.heap → FineG BC xb fr z s (fun _ _ v d => v = d) Q E (evT T n sc Γ e) → wpAny (model prog w) A (isTrue e env (eval e env)) Q E s
  evAll : ∀ sc Γ op es env z s Q E, Now prog w base xb fr env sc z Γ s.heap → FineG BC xb fr z s (fun _ _ v d => v = d) Q E (evAll T n sc Γ op es) → wpAny (model prog w) A (allTrue op es env) Q E s
  evChain : ∀ sc Γ a da ops es env z s Q E pos, Now prog w base xb fr env sc z Γ s.heap → Rep prog w z a da → FineG BC xb fr z s (fun _ _ v d => v = .bool d) Q E (evChain T n sc Γ da ops es) →
    wpAny (model prog w) A (compareChain pos a ops (markedEach ops es (evalEach es env))) Q E s
  evChainT : ∀ sc Γ a da ops es env z s Q E pos, Now prog w base xb fr env sc z Γ s.heap → Rep prog w z a da → FineG BC xb fr z s (fun _ _ v d => v = d) Q E (Mine.evChain T n sc Γ da ops es) →
    wpAny (model prog w) A (testChain pos a ops (markedEach ops es (evalEach es env))) Q E s
  evIter : ∀ sc Γ e env z s Q E, Now prog w base xb fr env sc z Γ s.heap → FineG BC xb fr z s (fun z' h' v d => Src prog w z' h' false v d) Q E (evIter T n sc Γ e) → wpAny (model prog w) A (eval e env) Q E s
  evCall : ∀ sc Γ x px args env z s Q E pos, Now prog w base xb fr env sc z Γ s.heap → isGlob sc x = true → Fine prog w BC xb fr z s Q E (evCall T n sc Γ x args) →
    wpAny (model prog w) A (eval (.Call (.Name x px) args [] pos) env) Q E s
  evComp : ∀ sc Γ elt gens csc env z s (Q : Value → Shared → Prop) E pos, Now prog w base xb fr env sc z Γ s.heap →
    FineG BC xb fr z s (fun z' h' v ds => ∃ D ys n, v = .ref D ∧ z' D = none ∧ s.heap.get? D = none ∧ h'.get? D = some (lstO ys n) ∧ Reps prog w z' ys ds ∧ ys.length ≤ sizeLine) Q E (evComp T n sc Γ elt gens csc) →
    wpAny (model prog w) A (eval (.ListComp elt gens csc pos) env) Q E s
variable {prog w BC T base xb A fr}

theorem snd_zero : Snd prog w BC T base xb A fr 0 where
  ev := fun _ _ _ _ _ _ _ _ _ F => False.elim F
  evB := fun _ _ _ _ _ _ _ _ _ F => False.elim F
  evs := fun _ _ _ _ _ _ _ _ _ _ F => False.elim F
  evBool := fun _ _ _ _ _ _ _ _ _ _ _ F => False.elim F
  evT := fun _ _ _ _ _ _ _ _ _ F => False.elim F
  evAll := fun _ _ _ _ _ _ _ _ _ _ F => False.elim F
  evChain := fun _ _ _ _ _ _ _ _ _ _ _ _ _ _ F => False.elim F
  evChainT := fun _ _ _ _ _ _ _ _ _ _ _ _ _ _ F => False.elim F
  evIter := fun _ _ _ _ _ _ _ _ _ F => False.elim F
  evCall := fun _ _ _ _ _ _ _ _ _ _ _ _ _ F => False.elim F
  evComp := fun _ _ _ _ _ _ _ _ _ _ _ _ F => False.elim F

variable {n : Nat} {sc : Scope} {Γ : Vars} {env : Env} {z : Kept} {s : Shared} {E : Value → Shared → Prop}

theorem fine_val {α : Type} {P : Kept → Heap → α → α → Prop} {Q : α → Shared → Prop} {d : α} {z : Kept} {s : Shared} (on : z.on s.heap) (F : FineG BC xb fr z s P Q E (.ok d)) (p : P z s.heap d d) (tk : Tok) : Q d { s with toks := tk } :=
  F d z s.heap tk (.refl on) p

theorem snd_evB0 (IH : Snd prog w BC T base xb A fr n) {e : Expr} {Q : Value → Shared → Prop} (N : Now prog w base xb fr env sc z Γ s.heap)
    (F : FineG BC xb fr z s (fun z' h' v d => Shal prog w z' h' v d) Q E (ev T n sc Γ e)) : wpAny (model prog w) A (eval e env) Q E s := by
  refine IH.ev _ _ _ _ _ _ _ _ N ?_
  revert F
  cases ev T n sc Γ e with
  | ok d => exact fun F v z' h' tk X r => F v z' h' tk X (.rep r)
  | exc => exact fun F => F
  | bad => exact fun F => F
theorem evB_nm {x : Str} {pos : Pos} : evB T (n + 1) sc Γ (.Name x pos) = (Γ x).elim (ev T n sc Γ (.Name x pos)) fun p => .ok p.1 := by
  show (match Γ x with | some (d, _) => Res.ok d | none => ev T n sc Γ (.Name x pos)) = _
  cases Γ x <;> rfl
theorem snd_evB (IH : Snd prog w BC T base xb A fr n) {e : Expr} {Q : Value → Shared → Prop} (N : Now prog w base xb fr env sc z Γ s.heap)
    (F : FineG BC xb fr z s (fun z' h' v d => Shal prog w z' h' v d) Q E (evB T (n + 1) sc Γ e)) : wpAny (model prog w) A (eval e env) Q E s := by
  cases e with
  | Name x pos =>
    rw [evB_nm] at F
    cases hΓ : Γ x with
    | some p =>
      obtain ⟨d, own⟩ := p
      rw [hΓ] at F
      obtain ⟨hd, v, H, S, _⟩ := N.vals x d own hΓ
      exact name_rule H N.kind hd (F v z s.heap s.toks (.refl N.on) S)
    | none => rw [hΓ] at F; exact snd_evB0 IH N F
  | _ => exact snd_evB0 IH N F

theorem truth_exc {d : PyData} : truth d ≠ .exc := fun h => by cases d <;> cases h
theorem snd_evT0 (IH : Snd prog w BC T base xb A fr n) {e : Expr} {Q : Bool → Shared → Prop} (N : Now prog w base xb fr env sc z Γ s.heap) (he : isTrue e env (eval e env) = (do let v ← eval e env; standAt e.pos; holding [v] (truthy v)))
    (F : FineG BC xb fr z s (fun _ _ v d => v = d) Q E ((evB T n sc Γ e).bind truth)) : wpAny (model prog w) A (isTrue e env (eval e env)) Q E s := by
  refine wpAny_isTrue_value (fine_bind (IH.evB _ _ _ _ _ _ · _ N) F fun v d z₁ h₁ t₁ _ X p F' => ?_) he
  cases ht : truth d with
  | ok b => rw [ht] at F'; exact truth_rule ht p X.on fun tk => F' b z₁ h₁ tk (.refl X.on) rfl
  | exc => exact absurd ht truth_exc
  | bad => rw [ht] at F'; exact F'.elim
theorem snd_evT (IH : Snd prog w BC T base xb A fr n) {e : Expr} {Q : Bool → Shared → Prop} (N : Now prog w base xb fr env sc z Γ s.heap)
    (F : FineG BC xb fr z s (fun _ _ v d => v = d) Q E (evT T (n + 1) sc Γ e)) : wpAny (model prog w) A (isTrue e env (eval e env)) Q E s := by
  cases e with
  | UnaryOp op x pos => cases op with
    | Not =>
      refine wpAny_isTrue_Not (fine_bind (f := fun b => .ok (!b)) (IH.evT _ _ _ _ _ _ · _ N) F fun v d z₁ h₁ t₁ _ X p F' => ?_)
      subst p
      exact F' _ z₁ h₁ _ (.refl X.on) rfl
    | _ => exact snd_evT0 IH N rfl F
  | BoolOp op es pos => exact wpAny_isTrue_BoolOp (IH.evAll _ _ _ _ _ _ _ _ _ N F)
  | Compare l ops rs pos =>
    rw [arm_isTrue_Compare]
    refine wpAny_bind (fine_bind (f := fun a => evChain T n sc Γ a ops rs) (IH.ev _ _ _ _ _ _ · _ N) F fun v d z₁ h₁ t₁ _ X p F' => ?_)
    exact IH.evChainT _ _ _ _ _ _ _ _ _ _ _ _ (N.ext X) p F'
  | IfExp _ _ _ _ => exact False.elim F
  | _ => exact snd_evT0 IH N rfl F

theorem snd_evAll (IH : Snd prog w BC T base xb A fr n) {op : BoolOp} {es : List Expr} {Q : Bool → Shared → Prop} (N : Now prog w base xb fr env sc z Γ s.heap)
    (F : FineG BC xb fr z s (fun _ _ v d => v = d) Q E (evAll T (n + 1) sc Γ op es)) : wpAny (model prog w) A (allTrue op es env) Q E s := by
  cases es with
  | nil =>
    rw [arm_allTrue_nil]
    exact wpAny_pure (fine_val N.on F rfl s.toks)
  | cons e r =>
    rw [arm_allTrue_cons]
    refine wpAny_bind (fine_bind (IH.evT _ _ _ _ _ _ · _ N) F fun v d z₁ h₁ t₁ _ X p F' => ?_)
    subst p
    cases op <;> cases v
    · exact wpAny_pure (F' _ z₁ h₁ _ (.refl X.on) rfl)
    · exact IH.evAll _ _ _ _ _ _ _ _ _ (N.ext X) F'
    · exact IH.evAll _ _ _ _ _ _ _ _ _ (N.ext X) F'
    · exact wpAny_pure (F' _ z₁ h₁ _ (.refl X.on) rfl)

theorem snd_evBool (IH : Snd prog w BC T base xb A fr n) {op : BoolOp} {es : List Expr} {Q : Value → Shared → Prop} {pos : Pos} (N : Now prog w base xb fr env sc z Γ s.heap)
    (F : Fine prog w BC xb fr z s Q E (evBool T (n + 1) sc Γ op es)) : wpAny (model prog w) A (boolOp pos op (evalEach es env)) Q E s := by
  cases es with
  | nil => exact False.elim F
  | cons e r =>
    cases r with
    | nil =>
      rw [arm_evalEach_cons, arm_evalEach_nil]
      exact IH.ev _ _ _ _ _ _ _ _ N F
    | cons e' r =>
      rw [arm_evalEach_cons, arm_evalEach_cons]
      show wpAny _ _ (do let v ← eval e env; standAt pos; let t ← holding [v] (truthy v); match op, t with | .And, false | .Or, true => pure v | _, _ => boolOp pos op (eval e' env :: evalEach r env)) Q E s
      refine wpAny_bind (fine_bind (IH.ev _ _ _ _ _ _ · _ N) F fun v d z₁ h₁ t₁ _ X p F' => ?_)
      refine wpAny_bind (wpAny_standAt (wpAny_bind (wpAny_holding ?_)))
      cases ht : truth d with
      | exc => exact absurd ht truth_exc
      | bad => rw [ht] at F'; exact F'.elim
      | ok b =>
        rw [ht] at F'
        refine truth_rule ht (.rep p) X.on fun tk => ?_
        have F'' := FineG.shift (t₁ := tk) (Ext.refl X.on) F'
        have go : wpAny (model prog w) A (pure v) Q E { s with heap := h₁, toks := tk } ∨ True := .inr trivial
        cases op <;> cases b
        · exact wpAny_pure (F'' v z₁ h₁ tk (.refl X.on) p)
        · have := IH.evBool _ _ _ _ _ _ _ _ _ pos (N.ext X) F''
          rw [arm_evalEach_cons] at this; exact this
        · have := IH.evBool _ _ _ _ _ _ _ _ _ pos (N.ext X) F''
          rw [arm_evalEach_cons] at this; exact this
        · exact wpAny_pure (F'' v z₁ h₁ tk (.refl X.on) p)

theorem evs_cons_star (e : Expr) (r : List Expr) (h : ∀ a b, e ≠ .Starred a b) : starEach (e :: r) env = (false, eval e env) :: starEach r env := by
  cases e <;> first | rfl | exact absurd rfl (h _ _)
theorem ev_starred (a : Expr) (b : Pos) : ev T n sc Γ (.Starred a b) = .bad := by cases n <;> rfl

theorem snd_evs (IH : Snd prog w BC T base xb A fr n) {es : List Expr} {Q : List Value → Shared → Prop} {pos : Pos} (N : Now prog w base xb fr env sc z Γ s.heap)
    (F : FineG BC xb fr z s (fun z' _ v d => Reps prog w z' v d) Q E (evs T (n + 1) sc Γ es)) : wpAny (model prog w) A (spliced (backTo pos (starEach es env))) Q E s := by
  cases es with
  | nil => exact wpAny_items_nil (F [] z s.heap s.toks (.refl N.on) .nil)
  | cons e r =>
    have F : FineG BC xb fr z s (fun z' _ v d => Reps prog w z' v d) Q E ((ev T n sc Γ e).bind fun d => (evs T n sc Γ r).bind fun ds => .ok (d :: ds)) := F
    have hst : ∀ a b, e ≠ .Starred a b := fun a b q => by subst q; rw [ev_starred] at F; exact F
    refine wpAny_items_cons (fine_bind (IH.ev _ _ _ _ _ _ · _ N) F fun v d z₁ h₁ t₁ _ X p F' => ?_) (evs_cons_star e r hst)
    refine fine_bind (IH.evs _ _ _ _ _ _ · _ pos (N.ext X)) F' fun vs ds z₂ h₂ t₂ _ X₂ p₂ F'' => ?_
    exact F'' (v :: vs) z₂ h₂ t₂ (.refl X₂.on) (.cons (p.mono X₂.le) p₂)
end
end
section
section
variable {prog : Program} {w : World} {BC : Addr} {T : Tab} {dep : Nat} {base xb : Heap} {mg mb : Str → Option Value} {A : Around} {fr : List Env}
variable {n : Nat} {sc : Scope} {Γ : Vars} {env : Env} {z : Kept} {s : Shared} {E : Value → Shared → Prop}

theorem evB_set {a b c} : evB T n sc Γ (.Set a b c) = .bad := by
  cases n with
  | zero => rfl
  | succ n => cases n <;> rfl

theorem snd_evChain (IH : Snd prog w BC T base xb A fr n) (hR : Room A fr dep) {a : Value} {da : PyData} {ops : List CmpOp} {es : List Expr} {Q : Value → Shared → Prop} {pos : Pos} (N : Now prog w base xb fr env sc z Γ s.heap)
    (ra : Rep prog w z a da) (F : FineG BC xb fr z s (fun _ _ v d => v = .bool d) Q E (evChain T (n + 1) sc Γ da ops es)) :
    wpAny (model prog w) A (compareChain pos a ops (markedEach ops es (evalEach es env))) Q E s := by
  have hu : A.units + 64 < cLine := by have := hR.units; omega
  cases ops with
  | nil => exact False.elim F
  | cons op ops => cases es with
  | nil => cases ops <;> exact False.elim F
  | cons e es => cases ops with
  | nil => cases es with
    | cons _ _ => exact False.elim F
    | nil =>
    have F : FineG BC xb fr z s _ Q E ((evB T n sc Γ e).bind fun b => cmp1 op da b) := F
    have hb : behindInMarks op e = false := behind_of fun x y q h => by subst h; rw [evB_set] at F; exact F
    rw [markedEach_last hb]
    show wpAny _ _ (do let rv ← holding [a] (eval e env); standAt pos; operate [a, rv] (compareOp op a rv)) Q E s
    refine wpAny_bind (wpAny_holding (fine_bind (IH.evB _ _ _ _ _ _ · _ N) F fun v d z₁ h₁ t₁ _ X p F' => ?_))
    refine wpAny_bind (wpAny_standAt (wpAny_operating ?_))
    cases hc : cmp1 op da d with
    | ok c => rw [hc] at F'; exact cmp_rule hc (ra.mono X.le) p X.on hu (F' _ z₁ h₁ _ (.refl X.on) rfl)
    | exc => exact absurd hc cmp1_exc
    | bad => rw [hc] at F'; exact F'.elim
  | cons op' ops =>
    have F : FineG BC xb fr z s _ Q E ((ev T n sc Γ e).bind fun b => (cmp1 op da b).bind fun c => if c then evChain T n sc Γ b (op' :: ops) es else .ok false) := F
    rw [arm_evalEach_cons]
    show wpAny _ _ (do
      let rv ← holding [a] (eval e env)
      standAt pos
      let c ← holding [a, rv] (compareOp op a rv)
      release [a, rv] [c]
      if ← holding [c, rv] (truthy c) then compareChain pos rv (op' :: ops) (markedEach (op' :: ops) es (evalEach es env)) else pure c) Q E s
    refine wpAny_bind (wpAny_holding (fine_bind (IH.ev _ _ _ _ _ _ · _ N) F fun v d z₁ h₁ t₁ _ X p F' => ?_))
    refine wpAny_bind (wpAny_standAt (wpAny_bind (wpAny_holding ?_)))
    cases hc : cmp1 op da d with
    | exc => exact absurd hc cmp1_exc
    | bad => rw [hc] at F'; exact F'.elim
    | ok c =>
      rw [hc] at F'
      refine cmp_rule hc (ra.mono X.le) (.rep p) X.on hu ?_
      refine wpAny_bind (wpAny_release (wpAny_bind (wpAny_holding (wpAny_truthy_bool ?_))))
      cases c with
      | true => exact IH.evChain _ _ _ _ _ _ _ _ _ _ _ pos (N.ext X) p F'
      | false => exact wpAny_pure (F' _ z₁ h₁ _ (.refl X.on) rfl)

theorem snd_evChainT (IH : Snd prog w BC T base xb A fr n) (hR : Room A fr dep) {a : Value} {da : PyData} {ops : List CmpOp} {es : List Expr} {Q : Bool → Shared → Prop} {pos : Pos} (N : Now prog w base xb fr env sc z Γ s.heap)
    (ra : Rep prog w z a da) (F : FineG BC xb fr z s (fun _ _ v d => v = d) Q E (evChain T (n + 1) sc Γ da ops es)) :
    wpAny (model prog w) A (testChain pos a ops (markedEach ops es (evalEach es env))) Q E s := by
  have hu : A.units + 64 < cLine := by have := hR.units; omega
  cases ops with
  | nil => exact False.elim F
  | cons op ops => cases es with
  | nil => cases ops <;> exact False.elim F
  | cons e es => cases ops with
  | nil => cases es with
    | cons _ _ => exact False.elim F
    | nil =>
    have F : FineG BC xb fr z s _ Q E ((evB T n sc Γ e).bind fun b => cmp1 op da b) := F
    have hb : behindInMarks op e = false := behind_of fun x y q h => by subst h; rw [evB_set] at F; exact F
    rw [markedEach_last hb]
    show wpAny _ _ (do let rv ← holding [a] (eval e env); standAt pos; let c ← operate [a, rv] (compareOp op a rv); holding [c] (truthy c)) Q E s
    refine wpAny_bind (wpAny_holding (fine_bind (IH.evB _ _ _ _ _ _ · _ N) F fun v d z₁ h₁ t₁ _ X p F' => ?_))
    refine wpAny_bind (wpAny_standAt (wpAny_bind (wpAny_operating ?_)))
    cases hc : cmp1 op da d with
    | ok c => rw [hc] at F'; exact cmp_rule hc (ra.mono X.le) p X.on hu (wpAny_holding (wpAny_truthy_bool (F' _ z₁ h₁ _ (.refl X.on) rfl)))
    | exc => exact absurd hc cmp1_exc
    | bad => rw [hc] at F'; exact F'.elim
  | cons op' ops =>
    have F : FineG BC xb fr z s _ Q E ((ev T n sc Γ e).bind fun b => (cmp1 op da b).bind fun c => if c then evChain T n sc Γ b (op' :: ops) es else .ok false) := F
    rw [arm_evalEach_cons]
    show wpAny _ _ (do
      let rv ← holding [a] (eval e env)
      standAt pos
      let c ← holding [a, rv] (compareOp op a rv)
      release [a, rv] [c]
      if ← holding [c, rv] (truthy c) then testChain pos rv (op' :: ops) (markedEach (op' :: ops) es (evalEach es env)) else pure false) Q E s
    refine wpAny_bind (wpAny_holding (fine_bind (IH.ev _ _ _ _ _ _ · _ N) F fun v d z₁ h₁ t₁ _ X p F' => ?_))
    refine wpAny_bind (wpAny_standAt (wpAny_bind (wpAny_holding ?_)))
    cases hc : cmp1 op da d with
    | exc => exact absurd hc cmp1_exc
    | bad => rw [hc] at F'; exact F'.elim
    | ok c =>
      rw [hc] at F'
      refine cmp_rule hc (ra.mono X.le) (.rep p) X.on hu ?_
      refine wpAny_bind (wpAny_release (wpAny_bind (wpAny_holding (wpAny_truthy_bool ?_))))
      cases c with
      | true => exact IH.evChainT _ _ _ _ _ _ _ _ _ _ _ pos (N.ext X) p F'
      | false => exact wpAny_pure (F' _ z₁ h₁ _ (.refl X.on) rfl)

-- names of the top
theorem glob_rule {M : Model} {x : Str} {pos : Pos} {v : Value} {Q : Value → Shared → Prop} (W : World0 prog w BC T dep base mg mb) (N : Now prog w base xb fr env sc z Γ s.heap) (hg : isGlob sc x = true) (hv : mg x = some v)
    (hd : (x == ("__debug__" : Str)) = false) (h : Q v s) : wpAny M A (eval (.Name x pos) env) Q E s :=
  Name_function_global N.kind (N.isG x hg) (loadGlobal_global (by rw [N.glob]; exact W.g.keeps N.hb) hv h) hd
theorem built_rule {M : Model} {x : Str} {pos : Pos} {v : Value} {Q : Value → Shared → Prop} (W : World0 prog w BC T dep base mg mb) (N : Now prog w base xb fr env sc z Γ s.heap) (hg : isGlob sc x = true) (hm : mg x = none) (hv : mb x = some v)
    (hd : (x == ("__debug__" : Str)) = false) (h : Q v s) : wpAny M A (eval (.Name x pos) env) Q E s :=
  Name_function_global N.kind (N.isG x hg) (loadGlobal_builtin (by rw [N.glob]; exact W.g.keeps N.hb) hm (by rw [N.bi]; exact W.b.keeps N.hb) hv h) hd

theorem Call_Name {M : Model} {x : Str} {px pos : Pos} {args : List Expr} {Q : Value → Shared → Prop}
    (h : wpAny M A (eval (.Name x px) env) (fun f s₁ => wpAny M A (callWith pos f [] (backTo pos (starEach args env)) []) Q E s₁) E s) :
    wpAny M A (eval (.Call (.Name x px) args [] pos) env) Q E s := by
  show wpAny M A (do callWith pos (← eval (.Name x px) env) [] (backTo pos (starEach args env)) (backToKw pos (keywordEach [] env))) Q E s
  exact wpAny_bind h

theorem evIter_starred (a : Expr) (b : Pos) : evIter T n sc Γ (.Starred a b) = .bad := by
  cases n with
  | zero => rfl
  | succ n => cases n with
    | zero => rfl
    | succ n => cases n <;> rfl
theorem evB_starred (a : Expr) (b : Pos) : evB T n sc Γ (.Starred a b) = .bad := by
  cases n with
  | zero => rfl
  | succ n => cases n <;> rfl

theorem back_one {e : Expr} {pos : Pos} (h : ∀ a b, e ≠ .Starred a b) : backTo pos (starEach [e] env) = [(false, eval e env)] := by
  rw [evs_cons_star e [] h]; rfl
theorem back_two {e f : Expr} {pos : Pos} (h : ∀ a b, e ≠ .Starred a b) (h' : ∀ a b, f ≠ .Starred a b) : backTo pos (starEach [e, f] env) = [(false, eval e env), (false, eval f env)] := by
  rw [evs_cons_star e [f] h, evs_cons_star f [] h']; rfl

theorem mul_src {fz : Bool} {ds : List PyData} {d : PyData} {z : Kept} {h : Heap} {v : Value} (r : Shal prog w z h v d) (e : (match d with | .list xs => Res.ok xs | .tuple xs => .ok xs | _ => .bad) = .ok ds) (hf : fz = false) :
    Src prog w z h fz v ds := by
  cases d <;> first | (cases e; done) | skip
  · cases e; exact .list r (fun q => by rw [hf] at q; cases q)
  · cases e; cases r with | rep r => exact .tuple r

theorem src_fin {d : PyData} {z₁ : Kept} {h₁ : Heap} {t₁ : Tok} {v : Value} {Q : Value → Shared → Prop} (on : z₁.on h₁) (p : Shal prog w z₁ h₁ v d)
    (F : FineG BC xb fr z₁ { s with heap := h₁, toks := t₁ } (fun z' h' v d => Src prog w z' h' false v d) Q E (match (generalizing := false) d with | .list xs => Res.ok xs | .tuple xs => .ok xs | _ => .bad)) : Q v { s with heap := h₁, toks := t₁ } := by
  cases d with
  | list xs => exact F v z₁ h₁ t₁ (.refl on) (.list p (fun q => by cases q))
  | tuple xs => cases p with | rep p => exact F v z₁ h₁ t₁ (.refl on) (.tuple p)
  | _ => exact F.elim
noncomputable def IsC1 (e : Expr) : Prop := ∃ x px a pos, e = .Call (.Name x px) [a] [] pos
theorem evIter_inv (e : Expr) : IsC1 e ∨ evIter T (n + 1) sc Γ e = (evB T n sc Γ e).bind fun d => (match d with | .list xs => Res.ok xs | .tuple xs => .ok xs | _ => .bad) := by
  cases e with
  | Call f args kws pos => cases f with
    | Name x px => cases args with
      | nil => exact .inr rfl
      | cons a as => cases as with
        | cons _ _ => exact .inr rfl
        | nil => cases kws with
          | cons _ _ => exact .inr rfl
          | nil => exact .inl ⟨x, px, a, pos, rfl⟩
    | _ => cases args with
      | nil => exact .inr rfl
      | cons _ as => cases as <;> exact .inr rfl
  | _ => exact .inr rfl
theorem evIter_rng {px pos : Pos} {a : Expr} : evIter T (n + 1) sc Γ (.Call (.Name "range" px) [a] [] pos) = (Γ "range").elim (.guard (isGlob sc "range") ((ev T n sc Γ a).bind fun d => (match d with | .int k => .guard (small k && decide (k ≤ szMax)) (.ok (rangeD k)) | _ => .bad))) fun _ => .bad := by
  show (match Γ "range" with
          | some _ => Res.bad
          | none => (.guard (isGlob sc "range") ((ev T n sc Γ a).bind fun d => (match d with | .int k => .guard (small k && decide (k ≤ szMax)) (.ok (rangeD k)) | _ => .bad)))) = _
  cases Γ "range" <;> rfl
theorem snd_evIter0 (IH : Snd prog w BC T base xb A fr n) {e : Expr} {Q : Value → Shared → Prop} (N : Now prog w base xb fr env sc z Γ s.heap)
    (F : FineG BC xb fr z s (fun z' h' v d => Src prog w z' h' false v d) Q E ((evB T n sc Γ e).bind fun d => (match d with | .list xs => Res.ok xs | .tuple xs => .ok xs | _ => .bad))) : wpAny (model prog w) A (eval e env) Q E s := by
  refine fine_bind (IH.evB _ _ _ _ _ _ · _ N) F fun v d z₁ h₁ t₁ _ X p F' => ?_
  exact src_fin X.on p F'
theorem snd_evIter1 (IH : Snd prog w BC T base xb A fr n) (W : World0 prog w BC T dep base mg mb) {x : Str} {px pos : Pos} {a : Expr} {Q : Value → Shared → Prop} (N : Now prog w base xb fr env sc z Γ s.heap)
    (F : FineG BC xb fr z s (fun z' h' v d => Src prog w z' h' false v d) Q E (evIter T (n + 1) sc Γ (.Call (.Name x px) [a] [] pos))) : wpAny (model prog w) A (eval (.Call (.Name x px) [a] [] pos) env) Q E s := by
  by_cases hx : x = "range"
  · subst hx
    rw [evIter_rng] at F
    cases hΓ : Γ "range" with
    | some _ => rw [hΓ] at F; exact False.elim F
    | none =>
      rw [hΓ] at F
      obtain ⟨hg, F⟩ := fine_guard F
      have hst : ∀ p q, a ≠ .Starred p q := fun p q h => by subst h; rw [ev_starred] at F; exact F
      refine Call_Name (built_rule W N hg W.bi.2.2.2.2.2.2.2.2.1 W.bi.2.2.2.2.2.2.2.2.2 (by decide) ?_)
      rw [back_one hst]
      refine callWith_type1 (fine_bind (IH.ev _ _ _ _ _ _ · _ N) F fun v d z₁ h₁ t₁ _ X p F' => ?_)
      cases d with
      | int k =>
        obtain ⟨hk, F'⟩ := fine_guard F'
        simp only [Bool.and_eq_true, decide_eq_true_eq] at hk
        cases p with | int _ t =>
        refine call_range_1 ?_
        exact F' _ z₁ _ _ (Ext.heap X.on fun b o e => Heap.get?_push_of_some _ e) (.range (Heap.get?_push_size _ rfl) hk.1 hk.2)
      | _ => exact F'.elim
  · have F : FineG BC xb fr z s (fun z' h' v d => Src prog w z' h' false v d) Q E ((ev T n sc Γ (.Call (.Name x px) [a] [] pos)).bind fun d => (match d with | .list xs => Res.ok xs | .tuple xs => .ok xs | _ => .bad)) := by
      rw [show evIter T (n + 1) sc Γ (.Call (.Name x px) [a] [] pos) = (ev T n sc Γ (.Call (.Name x px) [a] [] pos)).bind fun d => (match d with | .list xs => Res.ok xs | .tuple xs => .ok xs | _ => .bad) from if_neg hx] at F
      exact F
    refine fine_bind (IH.ev _ _ _ _ _ _ · _ N) F fun v d z₁ h₁ t₁ _ X p F' => ?_
    exact src_fin X.on (.rep p) F'
theorem snd_evIter (IH : Snd prog w BC T base xb A fr n) (W : World0 prog w BC T dep base mg mb) {e : Expr} {Q : Value → Shared → Prop} (N : Now prog w base xb fr env sc z Γ s.heap)
    (F : FineG BC xb fr z s (fun z' h' v d => Src prog w z' h' false v d) Q E (evIter T (n + 1) sc Γ e)) : wpAny (model prog w) A (eval e env) Q E s := by
  rcases evIter_inv (T := T) (n := n) (sc := sc) (Γ := Γ) e with ⟨x, px, a, pos, rfl⟩ | h
  · exact snd_evIter1 IH W N F
  · rw [h] at F; exact snd_evIter0 IH N F

theorem builtin1_exc {x : Str} {d : PyData} : builtin1 x d ≠ .exc := by
  unfold builtin1
  (repeat' split) <;> (intro h; cases h)

theorem notStar_ne {e : Expr} (h : notStar e = true) : ∀ p q, e ≠ .Starred p q := fun p q k => by subst k; cases h
theorem back_plain {es : List Expr} {pos : Pos} (h : es.all notStar = true) : (backTo pos (starEach es env)).any (·.1) = false := by
  induction es with
  | nil => rfl
  | cons e r ih =>
    rw [List.all_cons, Bool.and_eq_true] at h
    rw [evs_cons_star e r (notStar_ne h.1)]
    have := ih h.2
    unfold backTo at this ⊢
    simp only [List.map_cons, List.any_cons, this]
    rfl

theorem evalArgs_rule {M : Model} {f : Value} {es : List Expr} {pos : Pos} {Q : Args → Shared → Prop} (h : es.all notStar = true) (h0 : es.isEmpty = false)
    (k : wpAny M A (spliced (backTo pos (starEach es env))) (fun vs s' => Q ⟨vs, []⟩ s') E s) : wpAny M A (evalArgs f true (backTo pos (starEach es env)) []) Q E s := by
  cases es with
  | nil => cases h0
  | cons e r =>
    rw [List.all_cons, Bool.and_eq_true] at h
    rw [evs_cons_star e r (notStar_ne h.1)] at k ⊢
    exact evalArgs_plain k

theorem min_rep {z : Kept} {i j : Int} {t u : Tok} : Rep prog w z (if j < i then .int j u else .int i t) (.int (min i j)) := by
  split
  · rw [show min i j = j by omega]; exact .int _ _
  · rw [show min i j = i by omega]; exact .int _ _

theorem snd_evCall (IH : Snd prog w BC T base xb A fr n) (hR : Room A fr dep) (W : World0 prog w BC T dep base mg mb) {x : Str} {px pos : Pos} {args : List Expr} {Q : Value → Shared → Prop} (N : Now prog w base xb fr env sc z Γ s.heap)
    (hg : isGlob sc x = true) (F : Fine prog w BC xb fr z s Q E (evCall T (n + 1) sc Γ x args)) :
    wpAny (model prog w) A (eval (.Call (.Name x px) args [] pos) env) Q E s := by
  obtain ⟨hns, F⟩ := fine_guard F
  rw [Bool.and_eq_true, Bool.not_eq_true'] at hns
  obtain ⟨hns, hne⟩ := hns
  by_cases hb : x ∈ builtinNames
  · rw [if_pos hb] at F
    cases args with
    | nil => cases hne
    | cons e args => cases args with
    | nil =>
      have F : FineG BC xb fr z s _ Q E (if x = "list" then (evIter T n sc Γ e).bind fun ds => .ok (.list ds) else if x = "range" then .bad else (evB T n sc Γ e).bind fun d => builtin1 x d) := F
      by_cases hx : x = "list"
      · rw [if_pos hx] at F
        subst hx
        have hst := notStar_ne (by simpa using hns)
        refine Call_Name (built_rule W N hg W.bi.2.2.1 W.bi.2.2.2.1 (by decide) ?_)
        rw [back_one hst]
        refine callWith_type1 (fine_bind (IH.evIter _ _ _ _ _ _ · _ N) F fun v d z₁ h₁ t₁ _ X p F' => ?_)
        exact list_rule hR.hh X.on p fun v z' h' tk Y r => F' v z' h' tk Y r
      · rw [if_neg hx] at F
        by_cases hx' : x = "range"
        · rw [if_pos hx'] at F; exact F.elim
        rw [if_neg hx'] at F
        have hst := notStar_ne (by simpa using hns)
        have key : ∀ f : Value, ((x = "len" → f = .builtin "len") ∧ (x = "tuple" → f = .type "tuple") ∧ (x = "min" → f = .builtin "min")) →
            ∀ v s₁ d z₁ h₁ t₁, s₁ = { s with heap := h₁, toks := t₁ } → Ext z z₁ s.heap h₁ → Shal prog w z₁ h₁ v d → Fine prog w BC xb fr z₁ { s with heap := h₁, toks := t₁ } Q E (builtin1 x d) → wpAny (model prog w) A (call f [v]) Q E s₁ := by
          intro f hf v s₁ d z₁ h₁ t₁ e X p F'
          subst e
          cases hc : builtin1 x d with
          | exc => exact absurd hc builtin1_exc
          | bad => rw [hc] at F'; exact F'.elim
          | ok r => rw [hc] at F'; exact builtin1_rule hR.hh X.on hx hf hc p fun v z' h' tk Y r => F' v z' h' tk Y r
        have cs : x = "len" ∨ x = "tuple" ∨ x = "min" := by
          simp only [builtinNames, List.mem_cons, List.not_mem_nil, or_false] at hb
          rcases hb with h | h | h | h | h
          · exact .inl h
          · exact absurd h hx
          · exact .inr (.inl h)
          · exact .inr (.inr h)
          · exact absurd h hx'
        rcases cs with rfl | rfl | rfl
        · refine Call_Name (built_rule W N hg W.bi.1 W.bi.2.1 (by decide) ?_)
          rw [back_one hst]
          refine callWith_builtin1 (fine_bind (IH.evB _ _ _ _ _ _ · _ N) F fun v d z₁ h₁ t₁ _ X p F' => ?_)
          exact key _ ⟨fun _ => rfl, fun h => absurd h (by decide), fun h => absurd h (by decide)⟩ _ _ _ _ _ _ rfl X p F'
        · refine Call_Name (built_rule W N hg W.bi.2.2.2.2.1 W.bi.2.2.2.2.2.1 (by decide) ?_)
          rw [back_one hst]
          refine callWith_type1 (fine_bind (IH.evB _ _ _ _ _ _ · _ N) F fun v d z₁ h₁ t₁ _ X p F' => ?_)
          exact key _ ⟨fun h => absurd h (by decide), fun _ => rfl, fun h => absurd h (by decide)⟩ _ _ _ _ _ _ rfl X p F'
        · refine Call_Name (built_rule W N hg W.bi.2.2.2.2.2.2.1 W.bi.2.2.2.2.2.2.2.1 (by decide) ?_)
          rw [back_one hst]
          refine callWith_builtin1 (fine_bind (IH.evB _ _ _ _ _ _ · _ N) F fun v d z₁ h₁ t₁ _ X p F' => ?_)
          exact key _ ⟨fun h => absurd h (by decide), fun h => absurd h (by decide), fun _ => rfl⟩ _ _ _ _ _ _ rfl X p F'
    | cons e' args =>
      obtain ⟨hx, F⟩ := fine_guard F
      simp only [decide_eq_true_eq] at hx
      subst hx
      refine Call_Name (built_rule W N hg W.bi.2.2.2.2.2.2.1 W.bi.2.2.2.2.2.2.2.1 (by decide) (callWith_builtin (back_plain hns) (evalArgs_rule hns hne ?_)))
      refine fine_bind (IH.evs _ _ _ _ _ _ · _ pos N) F fun vs ds' z₁ h₁ t₁ e X p F' => ?_
      split at F'
      · cases p with | cons p1 p2 => cases p2 with | cons p2 p3 =>
        cases p3; cases p1 with | int i t => cases p2 with | int j u =>
        refine min_two_ints hR.hh fun h' tk hk => ?_
        have X' : Ext z₁ z₁ h₁ h' := Ext.heap X.on hk
        exact F' _ z₁ h' tk X' min_rep
      · exact F'.elim
  · rw [if_neg hb] at F
    cases hφ : T.funs x with
    | none => rw [hφ] at F; exact F.elim
    | some φ =>
      rw [hφ] at F
      obtain ⟨hd, fa, o, fd, hmg, ho, hdat, C⟩ := W.funs x φ hφ
      refine Call_Name (glob_rule W N hg hmg hd ?_)
      refine callWith_function (o := o) (fd := fd) (evalArgs_rule hns hne ?_)
      refine fine_bind (IH.evs _ _ _ _ _ _ · _ pos N) F fun vs ds z₁ h₁ t₁ e X p F' => ⟨⟨X.keep _ _ (N.hb _ _ ho), hdat⟩, ?_⟩
      refine wpAny_call ?_
      have N' := N.ext X
      refine C A fr xb z₁ { s with heap := h₁, toks := t₁ } ([] ++ vs) ds _ hR.hh hR.fr hR.depth (by have := hR.units; omega) N'.hb N'.hxb N'.ff X.on (by simpa using p) ?_
      revert F'
      cases φ ds with
      | ok d => exact fun F v z' h' tk Y r => F v z' h' tk Y r
      | exc => exact fun F => F
      | bad => exact fun F => F
end
end
section
noncomputable def closL (env : Env) : List (Str × NameKind) → List (Str × Addr) → List (Str × Addr)
  | [], acc => acc
  | (x, k) :: r, acc => if k == .free then closL env r ((x, (env.cells.lookup x).getD 0) :: acc) else closL env r acc

theorem closureFor_eq {scope : Scope} {env : Env} (h : ∀ x ∈ scope.names, x.2 = .free → ∃ c, env.cells.lookup x.1 = some c) : closureFor scope env = pure (closL env scope.names []) := by
  unfold closureFor
  generalize scope.names = names at h
  have go : ∀ (names : List (Str × NameKind)) (acc : List (Str × Addr)), (∀ x ∈ names, x.2 = .free → ∃ c, env.cells.lookup x.1 = some c) →
      (forIn names acc fun x r => (do
        if (x.2 == NameKind.free) = true then do let a ← cellOf env x.1; pure (ForInStep.yield ((x.1, a) :: r)) else pure (ForInStep.yield r) : Sem (ForInStep (List (Str × Addr))))) = pure (closL env names acc) := by
    intro names
    induction names with
    | nil => intro acc _; rfl
    | cons x r ih =>
      intro acc h
      obtain ⟨x, k⟩ := x
      rw [List.forIn_cons]
      by_cases hk : (k == NameKind.free) = true
      · obtain ⟨c, hc⟩ := h (x, k) (.head _) (by simpa using hk)
        have e1 : cellOf env x = pure c := by unfold cellOf; rw [show env.cells.lookup x = some c from hc]
        simp only [hk, if_true, closL, e1, pure_bind]
        rw [show env.cells.lookup x = some c from hc]
        exact ih _ fun y hy => h y (.tail _ hy)
      · simp only [hk, if_false, closL, pure_bind, Bool.false_eq_true]
        exact ih _ fun y hy => h y (.tail _ hy)
  have := go names [] h
  simpa using this

theorem closL_append (env : Env) : ∀ (names : List (Str × NameKind)) (acc : List (Str × Addr)), closL env names acc = closL env names [] ++ acc
  | [], acc => rfl
  | (x, k) :: r, acc => by
    by_cases hk : (k == NameKind.free) = true
    · simp only [closL, hk, if_true]
      rw [closL_append env r ((x, _) :: acc), closL_append env r [(x, _)]]
      simp
    · simp only [closL, hk, if_false, Bool.false_eq_true]
      exact closL_append env r acc
theorem closL_mem (env : Env) : ∀ (names : List (Str × NameKind)) {y : Str} {c : Addr}, (y, c) ∈ closL env names [] → (y, NameKind.free) ∈ names
  | [], _, _, h => nomatch h
  | (x, k) :: r, y, c, h => by
    by_cases hk : (k == NameKind.free) = true
    · simp only [closL, hk, if_true] at h
      rw [closL_append] at h
      rcases List.mem_append.mp h with h | h
      · exact .tail _ (closL_mem env r h)
      · have : y = x := by simpa using (Prod.mk.inj (List.mem_singleton.mp h)).1
        subst this
        rw [show k = NameKind.free by simpa using hk]; exact .head _
    · simp only [closL, hk, if_false, Bool.false_eq_true] at h
      exact .tail _ (closL_mem env r h)
theorem lookup_append {α : Type} (x : Str) : ∀ (l l' : List (Str × α)), (l ++ l').lookup x = (l.lookup x).or (l'.lookup x)
  | [], _ => rfl
  | (y, a) :: l, l' => by
    rw [List.cons_append, List.lookup_cons, List.lookup_cons]
    cases h : (x == y) with
    | true => rfl
    | false => exact lookup_append x l l'
theorem lookup_none {α : Type} {x : Str} : ∀ {l : List (Str × α)}, (∀ a, (x, a) ∉ l) → l.lookup x = none
  | [], _ => rfl
  | (y, a) :: l, h => by
    rw [List.lookup_cons]
    cases q : (x == y) with
    | true =>
      obtain rfl : x = y := by simpa using q
      exact absurd (List.Mem.head _) (h a)
    | false => exact lookup_none fun a ha => h a (.tail _ ha)
theorem closL_lookup (env : Env) {y : Str} : ∀ (names : List (Str × NameKind)), (names.map (·.1)).Nodup → names.lookup y = some .free → (∃ c, env.cells.lookup y = some c) → (closL env names []).lookup y = env.cells.lookup y
  | [], _, h, _ => by cases h
  | (x, k) :: r, hn, h, hc => by
    simp only [List.map_cons, List.nodup_cons] at hn
    rw [List.lookup_cons] at h
    cases q : (y == x) with
    | true =>
      rw [q] at h
      obtain rfl : y = x := by simpa using q
      have hk : (k == NameKind.free) = true := by simpa using h
      simp only [closL, hk, if_true]
      rw [closL_append, lookup_append, lookup_none, Option.none_or]
      · obtain ⟨c, hc⟩ := hc
        rw [hc, List.lookup_cons]; simp
      · intro c hm
        have := closL_mem env r hm
        exact hn.1 (List.mem_map.mpr ⟨_, this, rfl⟩)
    | false =>
      rw [q] at h
      have ih := closL_lookup env r hn.2 h hc
      by_cases hk : (k == NameKind.free) = true
      · simp only [closL, hk, if_true]
        obtain ⟨c, hc⟩ := hc
        rw [closL_append, lookup_append, ih, hc]; rfl
      · simp only [closL, hk, if_false, Bool.false_eq_true]; exact ih

theorem cellsFrom_append : ∀ (names : List (Str × NameKind)) (n : Nat) (acc : List (Str × Addr)), cellsFrom n names acc = cellsFrom n names [] ++ acc
  | [], _, acc => rfl
  | (x, k) :: r, n, acc => by
    by_cases hk : (k == NameKind.cell) = true
    · simp only [cellsFrom, hk, if_true]
      rw [cellsFrom_append r (n + 1) ((x, n) :: acc), cellsFrom_append r (n + 1) [(x, n)]]
      simp
    · simp only [cellsFrom, hk, if_false, Bool.false_eq_true]
      exact cellsFrom_append r n acc
theorem cellsFrom_mem : ∀ (names : List (Str × NameKind)) (n : Nat) {y : Str} {c : Addr}, (y, c) ∈ cellsFrom n names [] → (y, NameKind.cell) ∈ names
  | [], _, _, _, h => nomatch h
  | (x, k) :: r, n, y, c, h => by
    by_cases hk : (k == NameKind.cell) = true
    · simp only [cellsFrom, hk, if_true] at h
      rw [cellsFrom_append] at h
      rcases List.mem_append.mp h with h | h
      · exact .tail _ (cellsFrom_mem r _ h)
      · have : y = x := by simpa using (Prod.mk.inj (List.mem_singleton.mp h)).1
        subst this
        rw [show k = NameKind.cell by simpa using hk]; exact .head _
    · simp only [cellsFrom, hk, if_false, Bool.false_eq_true] at h
      exact .tail _ (cellsFrom_mem r _ h)
theorem kind_of_mem {names : List (Str × NameKind)} (hn : (names.map (·.1)).Nodup) {x : Str} {k : NameKind} (h : (x, k) ∈ names) : names.lookup x = some k := by
  induction names with
  | nil => cases h
  | cons y r ih =>
    obtain ⟨y, k'⟩ := y
    simp only [List.map_cons, List.nodup_cons] at hn
    rw [List.lookup_cons]
    cases h with
    | head => simp
    | tail _ h =>
      cases q : (x == y) with
      | true =>
        obtain rfl : x = y := by simpa using q
        exact absurd (List.mem_map.mpr ⟨_, h, rfl⟩) hn.1
      | false => exact ih hn.2 h
theorem mem_of_kind {names : List (Str × NameKind)} {x : Str} {k : NameKind} (h : names.lookup x = some k) : (x, k) ∈ names := PySem.mem_of_lookup h

theorem relabel_lookup {scope : Scope} {env : Env} {x : Str} {k : NameKind} (h : scope.names.lookup x = some k) :
    (relabel scope env).names.lookup x = some k ∨ (k = .free ∧ (relabel scope env).names.lookup x = some .cell) := by
  unfold relabel
  simp only
  generalize scope.names = names at h
  induction names with
  | nil => cases h
  | cons y r ih =>
    obtain ⟨y, k'⟩ := y
    rw [List.lookup_cons] at h
    rw [List.map_cons, List.lookup_cons]
    cases q : (x == y) with
    | true =>
      rw [q] at h
      obtain rfl : k' = k := by simpa using h
      by_cases c : (k' == NameKind.free && env.scope.kind == .function && env.kindOf y == some .cell) = true
      · refine .inr ⟨by simp only [Bool.and_eq_true] at c; simpa using c.1.1, ?_⟩
        simp only [c, if_true, q]
      · refine .inl ?_
        simp only [c, if_false, q, Bool.false_eq_true]
    | false =>
      rw [q] at h
      have e : ∀ p : Str × NameKind, p.1 = y → (x == p.1) = false := fun p hp => by rw [hp]; exact q
      by_cases c : (k' == NameKind.free && env.scope.kind == .function && env.kindOf y == some .cell) = true
      · simp only [c, if_true, q]; exact ih h
      · simp only [c, if_false, q, Bool.false_eq_true]; exact ih h
end
section
/-- where a name of the frame's own is laid -/
noncomputable def Place (env : Env) (h : Heap) (x : Str) (p : Addr) : Prop :=
  (env.kindOf x = some .local ∧ p = env.locals ∧ ∃ m, h.Ns p m) ∨
  ((x == ("__classdict__" : Str)) = false ∧ env.kindOf x = some .cell ∧ env.cells.lookup x = some p ∧ ∃ v, h.IsCell p v)
theorem Place.keeps {env : Env} {h h' : Heap} {x : Str} {p : Addr} (P : Place env h x p) (k : ∀ o, h.get? p = some o → h'.get? p = some o) : Place env h' x p := by
  rcases P with ⟨a, b, m, hn⟩ | ⟨a, b, c, v, hv⟩
  · exact .inl ⟨a, b, m, hn.at' k⟩
  · obtain ⟨o, ho, hd⟩ := hv
    exact .inr ⟨a, b, c, v, o, k o ho, hd⟩
theorem Place.get {env : Env} {h : Heap} {x : Str} {p : Addr} (P : Place env h x p) : ∃ o, h.get? p = some o := by
  rcases P with ⟨_, _, m, o, _, _, ho, _⟩ | ⟨_, _, _, v, o, ho, _⟩
  · exact ⟨o, ho⟩
  · exact ⟨o, ho⟩

section
variable {M : Model} {A : Around} {E : Value → Shared → Prop} {s : Shared} {env : Env}
theorem store_rule {x : Str} {p : Addr} {v : Value} {Q : Unit → Shared → Prop} (P : Place env s.heap x p) (hk : env.scope.kind = .function)
    (h : ∀ h' tk, Heap.SameBut p s.heap h' → Place env h' x p → Holds env h' x v → ((∃ m, s.heap.Ns env.locals m) → ∃ m, h'.Ns env.locals m) → Q () { s with heap := h', toks := tk }) : wpAny M A (storeName env x v) Q E s := by
  rcases P with ⟨a, b, m, hn⟩ | ⟨a, b, c, v0, hv⟩
  · subst b
    refine wpAny_storeName_local a hn (fun h' hn' hs => h h' _ hs (.inl ⟨a, rfl, _, hn'⟩) (.inl ⟨a, _, hn', by simp⟩) fun _ => ⟨_, hn'⟩) ?_
    rw [hk]; rfl
  · exact wpAny_storeName_cell hk b c hv fun h' hv' hs => h h' s.toks hs (.inr ⟨a, b, c, _, hv'⟩) (.inr ⟨a, .inl b, p, c, hv'⟩) fun ⟨m, hm⟩ => ⟨m, hm.sameBut hs fun q => by
      obtain ⟨o, es, ep, ho, hd, _⟩ := hm
      obtain ⟨o', ho', hd'⟩ := hv
      rw [q, ho'] at ho; cases ho; rw [hd'] at hd; cases hd⟩

theorem newCompEnv {scope : Scope} {cl : List (Str × Addr)} {Q : Env → Shared → Prop}
    (h : Q (newEnv scope s.heap.objs.size env.globals (cellsFrom (s.heap.objs.size + 1) scope.names cl) env.qual none .none (some env) builtinsNs) { s with heap := pushCells (s.heap.push { cls := .type "dict", data := .dict #[] }) scope.names }) :
    wpAny M A (newFunctionEnv scope env.globals cl [] env.qual none .none (some env)) Q E s := by
  simp only [newFunctionEnv, Option.isSome_some, if_true]
  refine wpAny_bind (wpAny_alloc ?_)
  refine wpAny_bind (wpAny_layCells _ (fun name kind cells => by cases hkc : kind == NameKind.cell <;> simp [hkc]) _ _ _ _ ?_)
  rw [show ({ s with heap := s.heap.push { cls := .type "dict", data := .dict #[] } } : Shared).heap.objs.size = s.heap.objs.size + 1 from Heap.size_push ..]
  exact wpAny_bind (wpAny_pure (wpAny_pure h))
end

section
variable {prog : Program} {w : World} {BC : Addr} {T : Tab} {dep : Nat} {base xb : Heap} {mg mb : Str → Option Value} {A : Around} {fr : List Env}
variable {sc : Scope} {Γ : Vars} {env : Env} {z : Kept} {s : Shared} {E : Value → Shared → Prop}

theorem SameBut.get {p : Addr} {h h' : Heap} (x : Heap.SameBut p h h') {a : Addr} {o : Obj} (e : h.get? a = some o) (n : a ≠ p) : h'.get? a = some o := (x.2 a n).trans e

theorem Ext.but {z z' : Kept} {h h₁ h₂ : Heap} {p : Addr} (X : Ext z z' h h₁) (hz : z' p = none) (hp : h.get? p = none) (k : ∀ b o, b ≠ p → h₁.get? b = some o → h₂.get? b = some o) : Ext z z' h h₂ where
  le := X.le
  old := X.old
  on := fun a o e => k a o (fun q => by rw [q, hz] at e; cases e) (X.on a o e)
  keep := fun a o e => k a o (fun q => by rw [q, hp] at e; cases e) (X.keep a o e)

theorem comp_core (hR : Room A fr dep) {x : Str} {px pos : Pos} {iter elt : Expr} {ifs : List Expr} {csc : Scope} {items es : List PyData} {tf : Vars → Res Bool} {ef : Vars → Res PyData}
    (htest : ∀ (Γ' : Vars) (cenv : Env) (z : Kept) (s : Shared) (Q : Bool → Shared → Prop) (E : Value → Shared → Prop), Now prog w base xb fr cenv csc z Γ' s.heap → FineG BC xb fr z s (fun _ _ v d => v = d) Q E (tf Γ') →
      wpAny (model prog w) A (forIn ifs true fun c r => if r = true then do let ok ← isTrue c cenv (eval c cenv); pure (ForInStep.yield ok) else pure (ForInStep.yield r)) Q E s)
    (helt : ∀ (Γ' : Vars) (cenv : Env) (z : Kept) (s : Shared) (Q : Value → Shared → Prop) (E : Value → Shared → Prop), Now prog w base xb fr cenv csc z Γ' s.heap → Fine prog w BC xb fr z s Q E (ef Γ') → wpAny (model prog w) A (eval elt cenv) Q E s)
    (N : Now prog w base xb fr env sc z Γ s.heap) (hsc : scopeOk csc = true) (hfree : freeOk sc Γ csc = true) (hx : isLoc csc x = true) (hdx : (x == ("__debug__" : Str)) = false) (hcx : (x == ("__classdict__" : Str)) = false)
    {xv : Value} (S : Src prog w z s.heap false xv items) (hlen : items.length ≤ szMax) (hc : compL tf ef x (Γ.only csc) items = .ok es) {use : Option (Value → Sem Unit)} {Q : Value → Shared → Prop}
    (hEnd : ∀ D ys k z' h' tk L m, Ext z z' s.heap h' → z' D = none → z' L = none → s.heap.get? D = none → s.heap.get? L = none → D ≠ L → h'.get? D = some (lstO ys k) → Reps prog w z' ys es → ys.length ≤ sizeLine → h'.Ns L m →
      compPost (model prog w) A E use Q (.ref D) L (.ok .next) { s with heap := h', toks := tk }) :
    wpAny (model prog w) A (pyIter xv) (fun it s₂ => wpAny (model prog w) A (newList []) (fun acc s₃ => wpAny (model prog w) A (newFunctionEnv csc env.globals (closL env csc.names []) [] env.qual none .none (some env)) (fun cenv s₄ =>
      codeAny (model prog w) A (.compStart (.ListComp elt [⟨.Name x px, iter, ifs, 0⟩] csc pos) 0 it acc { cenv with scope := relabel csc env }) (compPost (model prog w) A E use Q acc cenv.locals) s₄) E s₃) E s₂) E s := by
  simp only [scopeOk, Bool.and_eq_true, List.all_eq_true, decide_eq_true_eq] at hsc
  obtain ⟨⟨hkind, hnames⟩, hnd⟩ := hsc
  have hkind : csc.kind = .function := by simpa using hkind
  simp only [freeOk, List.all_eq_true] at hfree
  refine iter_rule hR.hh N.on S fun I fp P St h1 W st0 hI0 hIx k1 hfp hP => ?_
  refine wpAny_newObj_type ?_ (by show (#[] : Array Value).size ≤ sizeLine; exact Nat.zero_le _)
  refine newCompEnv ?_
  -- the names of things
  generalize hD : ({ s with heap := h1 } : Shared).heap.objs.size = D
  have hD' : h1.objs.size = D := hD
  generalize hh2 : ({ s with heap := h1 } : Shared).heap.push { cls := .type "list", data := .seq [].toArray } = h2
  have hh2' : h1.push { cls := .type "list", data := .seq [].toArray } = h2 := hh2
  generalize hL : ({ s with heap := h2 } : Shared).heap.objs.size = L
  have hL' : h2.objs.size = L := hL
  have k2 : ∀ a o, h1.get? a = some o → h2.get? a = some o := fun a o e => by rw [← hh2']; exact Heap.get?_push_of_some _ e
  have k3 : ∀ a o, h2.get? a = some o → (pushCells (h2.push { cls := .type "dict", data := .dict #[] }) csc.names).get? a = some o := fun a o e => pushCells_keeps _ _ a o (Heap.get?_push_of_some _ e)
  have hDn1 : h1.get? D = none := by rw [← hD']; exact get_size_none _
  have hDn : s.heap.get? D = none := none_of_keep k1 hDn1
  have hLn2 : h2.get? L = none := by rw [← hL']; exact get_size_none _
  have hLn1 : h1.get? L = none := none_of_keep k2 hLn2
  have hLn : s.heap.get? L = none := none_of_keep k1 hLn1
  have hD2 : h2.get? D = some (lstO [] 0) := by rw [← hh2', ← hD']; exact Heap.get?_push_size _ rfl
  have hDL : D ≠ L := fun q => by rw [q, hLn2] at hD2; cases hD2
  obtain ⟨oI, hI1, _⟩ := hIx 0 h1 st0
  have hID : I ≠ D := fun q => by rw [q, hDn1] at hI1; cases hI1
  have hIL : I ≠ L := fun q => by rw [q, hLn1] at hI1; cases hI1
  have ok := cellsFrom_ok csc.names (h2.push { cls := .type "dict", data := .dict #[] }) (L + 1) [] ⟨fun _ _ hm => (nomatch hm), List.Pairwise.nil⟩ (by rw [Heap.size_push, hL']; exact Nat.le_refl _)
  rw [Heap.size_push, hL'] at ok
  have hcl : ∀ x ∈ csc.names, x.2 = .free → ∃ c, env.cells.lookup x.1 = some c ∧ ∃ d own, Γ x.1 = some (d, own) := by
    intro y hy hf
    have q := hfree y hy
    rw [hf] at q
    simp only [Bool.or_eq_true, Bool.and_eq_true, Option.isSome_iff_exists] at q
    rcases q with q | ⟨⟨⟨d, own⟩, hd⟩, hk⟩
    · simp at q
    · obtain ⟨_, v, H, _⟩ := N.vals y.1 d own hd
      have hk' := N.isC y.1 (by simpa using hk)
      rcases H with ⟨q1, _⟩ | ⟨_, _, c, hc, _⟩
      · rw [q1] at hk'; rcases hk' with e | e <;> cases e
      · exact ⟨c, hc, d, own, hd⟩
  generalize hcenv : ({ (newEnv csc L env.globals (cellsFrom (L + 1) csc.names (closL env csc.names [])) env.qual none .none (some env) builtinsNs) with scope := relabel csc env } : Env) = cenv
  have cL : cenv.locals = L := by rw [← hcenv]; rfl
  have cS : cenv.scope = relabel csc env := by rw [← hcenv]
  have cC : cenv.cells = cellsFrom (L + 1) csc.names [] ++ closL env csc.names [] := by rw [← hcenv]; exact cellsFrom_append _ _ _
  have cG : cenv.globals = mainGlobals := by rw [← hcenv]; exact N.glob
  have cB : cenv.builtins = builtinsNs := by rw [← hcenv]; exact N.bi
  have cK : cenv.scope.kind = .function := by rw [cS]; exact hkind
  -- the target's place
  have hpl : ∃ p, Place cenv (pushCells (h2.push { cls := .type "dict", data := .dict #[] }) csc.names) x p ∧ h2.get? p = none := by
    have hns := ((Heap.Ns.new h2 (.type "dict")).keeps (pushCells_keeps csc.names _) : (pushCells (h2.push { cls := .type "dict", data := .dict #[] }) csc.names).Ns h2.objs.size _)
    simp only [isLoc, Bool.or_eq_true, beq_iff_eq] at hx
    rcases hx with hx | hx
    · refine ⟨L, .inl ⟨?_, cL.symm, _, hL' ▸ hns⟩, hLn2⟩
      show cenv.scope.names.lookup x = _
      rw [cS]; exact PySem.lookup_relabel_local hx
    · obtain ⟨c, hc⟩ := Option.isSome_iff_exists.mp (cellsFrom_some (x := x) csc.names (L + 1) [] (.inl hx))
      obtain ⟨ce, cle⟩ := ok.empty x c (PySem.mem_of_lookup hc)
      refine ⟨c, .inr ⟨hcx, ?_, ?_, _, ce⟩, ?_⟩
      · show cenv.scope.names.lookup x = _
        rw [cS]
        rcases relabel_lookup (env := env) hx with q | ⟨q, _⟩
        · exact q
        · cases q
      · rw [cC, lookup_append, hc]; rfl
      · cases q : h2.get? c with
        | none => rfl
        | some o => exact absurd (Nat.lt_of_lt_of_le (Heap.lt_size q) (hL' ▸ Nat.le_trans (Nat.le_succ L) cle : h2.objs.size ≤ c)) (Nat.lt_irrefl _)
  obtain ⟨p, hp0, hpn2⟩ := hpl
  have hpn1 : h1.get? p = none := none_of_keep k2 hpn2
  have hpn : s.heap.get? p = none := none_of_keep k1 hpn1
  have hpD : p ≠ D := fun q => by rw [q, hD2] at hpn2; cases hpn2
  have hpI : p ≠ I := fun q => by rw [q, hI1] at hpn1; cases hpn1
  -- what the turns keep
  have X3 : Ext z z s.heap (pushCells (h2.push { cls := .type "dict", data := .dict #[] }) csc.names) := Ext.heap N.on fun a o e => k3 a o (k2 a o (k1 a o e))
  let Inv : Nat → Shared → Prop := fun n s' => ∃ i zi ys k done rest tk h', i + n = items.length ∧ s' = { s with heap := h', toks := tk } ∧ Ext z zi s.heap h' ∧ zi D = none ∧ zi I = none ∧ zi L = none ∧ zi p = none ∧
    St i h' ∧ h'.get? D = some (lstO ys k) ∧ Reps prog w zi ys done ∧ done.length ≤ i ∧ (∃ m, h'.Ns L m) ∧ Place cenv h' x p ∧ compL tf ef x (Γ.only csc) (items.drop i) = .ok rest ∧ done ++ rest = es
  have hnow : ∀ zi h', Ext z zi s.heap h' → ∀ v d, Rep prog w zi v d → Holds cenv h' x v → Now prog w base xb fr cenv csc zi ((Γ.only csc).set x d false) h' := by
    intro zi h' X v d r H
    have N' := N.ext X
    refine ⟨cK, cG, cB, fun y hy => ?_, fun y hy => ?_, N'.hb, X.on, N'.hxb, N'.ff, fun y d' own e => ?_⟩
    · simp only [isGlob, beq_iff_eq] at hy
      show cenv.scope.names.lookup y = _
      rw [cS]
      rcases relabel_lookup (env := env) hy with q | ⟨q, _⟩
      · exact q
      · cases q
    · show cenv.scope.names.lookup y = _ ∨ cenv.scope.names.lookup y = _
      rw [cS]
      rcases hy with hy | hy
      · rcases relabel_lookup (env := env) hy with q | ⟨q, _⟩
        · exact .inl q
        · cases q
      · rcases relabel_lookup (env := env) hy with q | ⟨_, q⟩
        · exact .inr q
        · exact .inl q
    · unfold Vars.set at e
      by_cases q : y = x
      · subst q
        rw [if_pos rfl] at e
        obtain ⟨rfl, rfl⟩ : d = d' ∧ false = own := by simpa using e
        exact ⟨hdx, v, H, .rep r, fun _ => r⟩
      · rw [if_neg q] at e
        unfold Vars.only at e
        split at e
        · rename_i hf
          obtain ⟨hdy, v', H', S', R'⟩ := N'.vals y d' own e
          refine ⟨hdy, v', ?_, S', R'⟩
          obtain ⟨c, hc, _⟩ := hcl (y, .free) (mem_of_kind hf) rfl
          have hk' := N.isC y (by
            have q := hfree (y, .free) (mem_of_kind hf)
            simp only [Bool.or_eq_true, Bool.and_eq_true, beq_iff_eq] at q
            rcases q with q | ⟨_, q⟩
            · simp at q
            · exact q)
          rcases H' with ⟨q1, _⟩ | ⟨hcd, _, c', hc', hv'⟩
          · rw [q1] at hk'; rcases hk' with e | e <;> cases e
          · refine .inr ⟨hcd, ?_, c', ?_, hv'⟩
            · show cenv.scope.names.lookup y = _ ∨ cenv.scope.names.lookup y = _
              rw [cS]
              rcases relabel_lookup (env := env) hf with q | ⟨_, q⟩
              · exact .inr q
              · exact .inl q
            · rw [cC, lookup_append, lookup_none, Option.none_or]
              · rw [closL_lookup env csc.names hnd hf ⟨c', hc'⟩]; exact hc'
              · intro a ha
                have := kind_of_mem hnd (cellsFrom_mem _ _ ha)
                rw [hf] at this; cases this
        · cases e
  have hst' : ∀ {i : Nat} {h h' : Heap}, St i h → (∀ b, b ≠ p → b ≠ D → ∀ o, h.get? b = some o → h'.get? b = some o) → St i h' := by
    intro i h h' st k
    refine W.frame i h h' st fun b hb o e => k b ?_ ?_ o e
    · intro q
      by_cases qI : b = I
      · exact hpI (q ▸ qI)
      · obtain ⟨o', ho', _⟩ := hfp b hb qI
        rw [q, hpn] at ho'; cases ho'
    · intro q
      by_cases qI : b = I
      · exact hID (qI ▸ q)
      · obtain ⟨o', ho', _⟩ := hfp b hb qI
        rw [q, hDn] at ho'; cases ho'
  have turn : ∀ n s', Inv n s' → wpAny (model prog w) A (pyNext (.ref I)) (fun r s₁ => match r with
      | none => compPost (model prog w) A E use Q (.ref D) L (.ok .next) s₁
      | some v => wpAny (model prog w) A (assign (.Name x px) cenv v) (fun _ s₂ =>
          wpAny (model prog w) A (forIn ifs true fun c r => if r = true then do let ok ← isTrue c cenv (eval c cenv); pure (ForInStep.yield ok) else pure (ForInStep.yield r)) (fun ok s₃ =>
            if ok = true then wpAny (model prog w) A (eval elt cenv) (fun y s₄ =>
              wpAny (model prog w) A (call (.builtin "list.append") [.ref D, y]) (fun _ s₅ => ∃ m, m < n ∧ Inv m s₅) (notedBy (model prog w) A cenv fun e s' => compPost (model prog w) A E use Q (.ref D) L (.error e) s') s₄) (notedBy (model prog w) A cenv fun e s' => compPost (model prog w) A E use Q (.ref D) L (.error e) s') s₃
            else ∃ m, m < n ∧ Inv m s₃) (notedBy (model prog w) A cenv fun e s' => compPost (model prog w) A E use Q (.ref D) L (.error e) s') s₂) (notedBy (model prog w) A cenv fun e s' => compPost (model prog w) A E use Q (.ref D) L (.error e) s') s₁)
        (notedBy (model prog w) A cenv fun e s' => compPost (model prog w) A E use Q (.ref D) L (.error e) s') s' := by
    intro n s' hI
    obtain ⟨i, zi, ys, k, done, rest, tk, h', hin, rfl, X, zD, zI, zL, zp, st, gD, R, hdl, ⟨m, hns⟩, hp, hcl', hde⟩ := hI
    by_cases hi : i < items.length
    · refine W.item i _ _ _ hi st fun v h4 tk4 hPv st4 hk4 => ?_
      obtain ⟨d, hd, rd⟩ := hP i v hi hPv
      have hk4' : ∀ b o, b ≠ I → h'.get? b = some o → h4.get? b = some o := fun b o hb e => hk4 b o (by simpa using hb) e
      have X4 : Ext z zi s.heap h4 := X.but zI hI0 hk4'
      refine wpAny_assign_Name (store_rule (s := { s with heap := h4, toks := tk4 }) (Place.keeps hp fun o e => hk4' p o hpI e) cK fun h5 tk5 hs5 hp5 hH5 hns5 => ?_)
      have hk5 : ∀ b o, b ≠ p → h4.get? b = some o → h5.get? b = some o := fun b o hb e => SameBut.get hs5 e hb
      have X5 : Ext z zi s.heap h5 := X4.but zp hpn hk5
      have gD5 : h5.get? D = some (lstO ys k) := hk5 D _ (Ne.symm hpD) (hk4' D _ (Ne.symm hID) gD)
      have st5 : St (i + 1) h5 := hst' st4 fun b hb _ o e => hk5 b o hb e
      have ns5 : ∃ m, h5.Ns L m := cL ▸ hns5 (cL.symm ▸ ⟨m, hns.at' fun o e => hk4' L o (Ne.symm hIL) e⟩)
      have hdrop : items.drop i = d :: items.drop (i + 1) := by
        rw [List.drop_eq_getElem_cons hi]
        congr 1
        rw [List.getElem?_eq_getElem hi] at hd
        exact Option.some.inj hd
      rw [hdrop] at hcl'
      simp only [compL] at hcl'
      obtain ⟨b, hb, hcl'⟩ := bind_ok hcl'
      refine htest _ cenv zi _ _ _ (hnow zi h5 X5 v d (rd.mono X.le) hH5) ?_
      rw [hb]
      intro b' z6 h6 tk6 X6 hbb
      subst hbb
      have zold : ∀ {a : Addr} {o : Obj}, h5.get? a = some o → zi a = none → z6 a = none := fun e hz => (X6.old _ _ e).trans hz
      obtain ⟨oI5, eI5, _⟩ := hIx _ _ st5
      obtain ⟨mL, nsL5⟩ := ns5
      obtain ⟨oL5, eL5⟩ : ∃ o, h5.get? L = some o := let ⟨o, _, _, e, _⟩ := nsL5; ⟨o, e⟩
      obtain ⟨op5, ep5⟩ := hp5.get
      have XX6 := X5.trans X6
      have X6k := X6.keep
      cases b' with
      | false =>
        simp only [Bool.false_eq_true, if_false] at hcl' ⊢
        refine ⟨n - 1, by omega, i + 1, z6, ys, k, done, rest, tk6, h6, by omega, rfl, XX6, zold gD5 zD, zold eI5 zI, zold eL5 zL, zold ep5 zp, hst' st5 (fun b _ _ o e => X6k b o e), X6k _ _ gD5, R.mono X6.le, by omega, ⟨mL, nsL5.keeps X6k⟩, hp5.keeps (fun o e => X6k _ _ e), hcl', hde⟩
      | true =>
        simp only [if_true] at hcl' ⊢
        obtain ⟨e, he, hcl'⟩ := bind_ok hcl'
        obtain ⟨es', hes', hcl'⟩ := bind_ok hcl'
        cases hcl'
        refine helt _ cenv z6 _ _ _ ((hnow zi h5 X5 v d (rd.mono X.le) hH5).ext X6) ?_
        rw [he]
        intro y z7 h7 tk7 X7 ry
        have zold7 : ∀ {a : Addr} {o : Obj}, h5.get? a = some o → zi a = none → z7 a = none := fun e hz => (X7.old _ _ (X6k _ _ e)).trans (zold e hz)
        have k7 : ∀ a o, h5.get? a = some o → h7.get? a = some o := fun a o e => X7.keep a o (X6k a o e)
        have hlen' := R.length
        refine wpAny_list_append_plain (items := ys.toArray) ⟨k, k7 _ _ gD5⟩ (fun h8 hpl8 hs8 => ?_) (by rw [List.size_toArray, sizeLine_eq]; unfold szMax at hlen; omega)
        obtain ⟨k8, gD8⟩ := hpl8
        have k8' : ∀ b o, b ≠ D → h7.get? b = some o → h8.get? b = some o := fun b o hb e => SameBut.get hs8 e hb
        refine ⟨n - 1, by omega, i + 1, z7, ys ++ [y], k8, done ++ [e], es', tk7, h8, by omega, rfl, (XX6.trans X7).but (zold7 gD5 zD) hDn k8', zold7 gD5 zD, zold7 eI5 zI, zold7 eL5 zL, zold7 ep5 zp,
          hst' st5 (fun b _ hbD o e => k8' b o hbD (k7 b o e)), ?_, (R.mono (Kept.le_trans X6.le X7.le)).append (.cons ry .nil), by rw [List.length_append]; simp; omega, ⟨mL, (nsL5.keeps k7).at' fun o e => k8' _ _ (Ne.symm hDL) e⟩,
          (hp5.keeps fun o e => k7 _ _ e).keeps fun o e => k8' _ _ hpD e, hes', by rw [List.append_assoc]; exact hde⟩
        rw [gD8]; unfold lstO; simp
    · have hi' : i = items.length := by omega
      subst hi'
      refine W.done _ _ _ st fun h4 tk4 hk4 => ?_
      have hk4' : ∀ b o, b ≠ I → h'.get? b = some o → h4.get? b = some o := fun b o hb e => hk4 b o (by simpa using hb) e
      rw [List.drop_length] at hcl'
      simp only [compL] at hcl'
      cases hcl'
      rw [List.append_nil] at hde
      subst hde
      have hlen' := R.length
      exact hEnd D ys k zi h4 tk4 L m (X.but zI hI0 hk4') zD zL hDn hLn hDL (hk4' _ _ (Ne.symm hID) gD) R (by rw [sizeLine_eq]; unfold szMax at hlen; omega) (hns.at' fun o e => hk4' _ _ (Ne.symm hIL) e)
  have start : Inv items.length { s with heap := pushCells (h2.push { cls := .type "dict", data := .dict #[] }) csc.names, toks := s.toks } := by
    have k12 : ∀ a o, h1.get? a = some o → (pushCells (h2.push { cls := .type "dict", data := .dict #[] }) csc.names).get? a = some o := fun a o e => k3 a o (k2 a o e)
    refine ⟨0, z, [], 0, [], es, s.toks, _, by omega, rfl, X3, none_of_on N.on hDn, none_of_on N.on hI0, none_of_on N.on hLn, none_of_on N.on hpn, W.frame 0 _ _ st0 (fun b _ o e => k12 b o e), k3 _ _ hD2, .nil, Nat.le_refl _, ?_, hp0, by rw [List.drop_zero]; exact hc, rfl⟩
    exact ⟨_, hL' ▸ (Heap.Ns.new h2 (.type "dict")).keeps (pushCells_keeps csc.names _)⟩
  have loop : ∀ s', Inv items.length s' → codeAny (model prog w) A (.compLoop (.ListComp elt [⟨.Name x px, iter, ifs, 0⟩] csc pos) 0 (.ref I) (.ref D) cenv) (compPost (model prog w) A E use Q (.ref D) L) s' :=
    fun s' h => codeAny_compLoop_tests Inv turn items.length h
  have st1 : St 0 (pushCells (h2.push { cls := .type "dict", data := .dict #[] }) csc.names) := W.frame 0 _ _ st0 (fun b _ o e => k3 b o (k2 b o e))
  exact codeAny_compStart_list (loop _ start) (W.self 0 _ _ _ st1 (loop _ start))
end
end
section
section
variable {prog : Program} {w : World} {BC : Addr} {T : Tab} {dep : Nat} {base xb : Heap} {mg mb : Str → Option Value} {A : Around} {fr : List Env}
variable {n : Nat} {sc : Scope} {Γ : Vars} {env : Env} {z : Kept} {s : Shared} {E : Value → Shared → Prop}

theorem foldedSet_of {e : Expr} (h : ∀ a b c, e ≠ .Set a b c) (x : Value) : foldedSetIterable e env x = pure x := by
  cases e <;> first | rfl | exact absurd rfl (h _ _ _)
theorem evIter_set {a b c} : evIter T n sc Γ (.Set a b c) = .bad := by
  cases n with
  | zero => rfl
  | succ n =>
    show (evB T n sc Γ (.Set a b c)).bind _ = _
    rw [evB_set]; rfl

theorem evComp_inv {elt : Expr} {gens : List Comprehension} {csc : Scope} (hb : evComp T (n + 1) sc Γ elt gens csc ≠ .bad) : ∃ x px iter ifs, gens = [⟨.Name x px, iter, ifs, 0⟩] := by
  cases gens with
  | nil => exact absurd rfl hb
  | cons g gs =>
    obtain ⟨t, iter, ifs, k⟩ := g
    cases t with
    | Name x px => cases gs with
      | nil =>
        by_cases q : k = 0
        · subst q; exact ⟨x, px, iter, ifs, rfl⟩
        · exact absurd (by cases k with
            | ofNat m => cases m <;> first | rfl | exact absurd rfl q
            | negSucc m => rfl) hb
      | cons _ _ => exact absurd (by cases k with
            | ofNat m => cases m <;> rfl
            | negSucc m => rfl) hb
    | _ => exact absurd rfl hb
theorem evComp_eq {elt iter : Expr} {x : Str} {px : Pos} {ifs : List Expr} {csc : Scope} : evComp T (n + 1) sc Γ elt [⟨.Name x px, iter, ifs, 0⟩] csc = .guard (scopeOk csc && freeOk sc Γ csc && isLoc csc x && !(x == "__debug__") && !(x == "__classdict__"))
        ((evIter T n sc Γ iter).bind fun items => .guard (decide (items.length ≤ szMax))
          (noExc (compL (fun Γ' => testOf ifs fun c => evT T n csc Γ' c) (fun Γ' => ev T n csc Γ' elt) x (Γ.only csc) items))) := rfl
/-- a comprehension, whoever uses what it makes -/
theorem comp_eval (IH : Snd prog w BC T base xb A fr n) (hR : Room A fr dep) {elt : Expr} {gens : List Comprehension} {csc : Scope} {pos : Pos} {use : Option (Value → Sem Unit)} {Q : Value → Shared → Prop}
    (N : Now prog w base xb fr env sc z Γ s.heap) (hb : evComp T (n + 1) sc Γ elt gens csc ≠ .bad)
    (hexc : ∀ e h' tk, evComp T (n + 1) sc Γ elt gens csc = .exc → XP BC xb fr s.heap h' e → E (.ref e) { s with heap := h', toks := tk })
    (hEnd : ∀ es D ys k z' h' tk L m, evComp T (n + 1) sc Γ elt gens csc = .ok es → Ext z z' s.heap h' → z' D = none → z' L = none → s.heap.get? D = none → s.heap.get? L = none → D ≠ L → h'.get? D = some (lstO ys k) → Reps prog w z' ys es → ys.length ≤ sizeLine → h'.Ns L m →
      compPost (model prog w) A E use Q (.ref D) L (.ok .next) { s with heap := h', toks := tk }) :
    firstAsync gens = false ∧ wpAny (model prog w) A (comprehension (.ListComp elt gens csc pos) csc env (firstIterPos gens pos) (newList []) false (firstIter gens env) use) Q E s := by
  obtain ⟨x, px, iter, ifs, rfl⟩ := evComp_inv hb
  rw [evComp_eq] at hb
  simp only [evComp_eq] at hexc hEnd
  · refine ⟨rfl, ?_⟩
    cases hg : (scopeOk csc && freeOk sc Γ csc && isLoc csc x && !(x == "__debug__") && !(x == "__classdict__")) with
    | false => rw [hg] at hb; exact absurd rfl hb
    | true =>
      simp only [hg, Res.guard_true] at hb hexc hEnd
      simp only [Bool.and_eq_true, Bool.not_eq_true'] at hg
      obtain ⟨⟨⟨⟨hsc, hfree⟩, hx⟩, hdx⟩, hcx⟩ := hg
      have hset : ∀ a b c, iter ≠ .Set a b c := fun a b c q => by subst q; rw [evIter_set] at hb; exact hb rfl
      have hsc' := hsc
      simp only [scopeOk, Bool.and_eq_true, List.all_eq_true, decide_eq_true_eq] at hsc'
      have hclos : closureFor csc env = pure (closL env csc.names []) := closureFor_eq fun y hy hf => by
        simp only [freeOk, List.all_eq_true] at hfree
        have q := hfree y hy
        rw [hf] at q
        simp only [Bool.or_eq_true, Bool.and_eq_true, Option.isSome_iff_exists] at q
        rcases q with q | ⟨⟨⟨d, own⟩, hd⟩, hk⟩
        · simp at q
        · obtain ⟨_, v, H, _⟩ := N.vals y.1 d own hd
          have hk' := N.isC y.1 (by simpa using hk)
          rcases H with ⟨q1, _⟩ | ⟨_, _, c, hc, _⟩
          · rw [q1] at hk'; rcases hk' with e | e <;> cases e
          · exact ⟨c, hc⟩
      refine wpAny_comprehension_free rfl (foldedSet_of hset) hclos (by simpa using hsc'.1.1) (fun y hy hl => by
        have q := hsc'.1.2 y hy
        rw [hl] at q
        simpa using q) ?_
      show wpAny _ _ (eval iter env) _ _ _
      refine IH.evIter _ _ _ _ _ _ _ _ N ?_
      cases hi : evIter T n sc Γ iter with
      | bad => rw [hi] at hb; exact absurd rfl hb
      | exc => exact fun e h' tk XX => hexc e h' tk (by rw [hi]; rfl) XX
      | ok items =>
        intro xv z1 h1 t1 X1 S1
        rw [hi] at hb
        have hEnd' := hEnd
        simp only [hi, Res.bind_ok] at hb hEnd'
        cases hl : decide (items.length ≤ szMax) with
        | false => rw [hl] at hb; exact absurd rfl hb
        | true =>
          simp only [hl, Res.guard_true] at hb hEnd'
          cases hc : compL (fun Γ' => testOf ifs fun c => evT T n csc Γ' c) (fun Γ' => ev T n csc Γ' elt) x (Γ.only csc) items with
          | bad => rw [hc] at hb; exact absurd rfl hb
          | exc => rw [hc] at hb; exact absurd rfl hb
          | ok es =>
            rw [hc] at hEnd'
            refine comp_core (s := { s with heap := h1, toks := t1 }) hR ?_ (fun Γ' cenv z s Q E N' F => IH.ev _ _ _ _ _ _ _ _ N' F) (N.ext X1) hsc hfree hx hdx hcx S1 (by simpa using hl) hc ?_
            · intro Γ' cenv z s Q E N' F
              unfold testOf at F
              cases ifs with
              | nil => exact wpAny_tests_nil (F true z s.heap s.toks (.refl N'.on) rfl)
              | cons c cs => cases cs with
                | nil => exact wpAny_tests_one (IH.evT _ _ _ _ _ _ _ _ N' F)
                | cons _ _ => exact False.elim F
            · intro D ys k z' h' tk L m X zD zL hD hL hDL gD R hlen hns
              exact hEnd' es D ys k z' h' tk L m rfl (X1.trans X) zD zL (none_of_keep X1.keep hD) (none_of_keep X1.keep hL) hDL gD R hlen hns

theorem snd_evComp (IH : Snd prog w BC T base xb A fr n) (hR : Room A fr dep) {elt : Expr} {gens : List Comprehension} {csc : Scope} {pos : Pos} {Q : Value → Shared → Prop} (N : Now prog w base xb fr env sc z Γ s.heap)
    (F : FineG BC xb fr z s (fun z' h' v ds => ∃ D ys n, v = .ref D ∧ z' D = none ∧ s.heap.get? D = none ∧ h'.get? D = some (lstO ys n) ∧ Reps prog w z' ys ds ∧ ys.length ≤ sizeLine) Q E (evComp T (n + 1) sc Γ elt gens csc)) :
    wpAny (model prog w) A (eval (.ListComp elt gens csc pos) env) Q E s := by
  have key := comp_eval (use := none) (pos := pos) (Q := Q) (E := E) IH hR N (elt := elt) (gens := gens) (csc := csc) (fun q => by rw [q] at F; exact F) (fun e h' tk q XX => by rw [q] at F; exact F e h' tk XX)
    (fun es D ys k z' h' tk L m q X zD zL hD hL hDL gD R hlen hns => by
      rw [q] at F
      refine ⟨m, hns, fun h'' hs => ?_⟩
      have k' : ∀ b o, b ≠ L → h'.get? b = some o → h''.get? b = some o := fun b o hb e => SameBut.get hs e hb
      exact F (.ref D) z' h'' tk (X.but zL hL k') ⟨D, ys, k, rfl, zD, hD, k' _ _ hDL gD, R, hlen⟩)
  rw [eval_ListComp, key.1]
  exact key.2

theorem sorts_rep {z : Kept} {kvs : List (Int × Value)} {ss : List (Int × Int)} {i j : Int} {u : Tok} (h : RepKV prog w (fun _ => none) kvs (ss.map fun p => (.int p.1, .int p.2))) :
    Rep prog w z ((valueAt kvs i).getD (.int j u)) (.int ((ss.lookup i).getD j)) := by
  induction ss generalizing kvs with
  | nil => cases h; exact .int _ _
  | cons p ss ih =>
    obtain ⟨k, v⟩ := p
    cases h with
    | cons h1 h2 =>
      cases h1 with | int _ t =>
      rw [List.lookup_cons]
      unfold valueAt
      by_cases q : k = i
      · subst q
        simp
        exact .int _ _
      · have q' : (i == k) = false := by rw [beq_eq_false_iff_ne]; exact fun e => q e.symm
        rw [q']
        have := ih h2
        unfold valueAt at this
        simpa [q] using this

theorem FineG.bad_elim {α β : Type} {BC : Addr} {xb : Heap} {fr : List Env} {z : Kept} {s : Shared} {P : Kept → Heap → β → α → Prop} {Q : β → Shared → Prop} {E : Value → Shared → Prop} {p : Prop} (F : FineG BC xb fr z s P Q E .bad) : p := F.elim

theorem ev_sub {e : Expr} {d : PyData} (h : ev T n sc Γ e = .ok d) (o i : Value) : subscripted e false o i = operate [o, i] (getItem o i) := by
  cases n with
  | zero => cases h
  | succ n => cases e <;> first | rfl | (cases h; done)

noncomputable def IsSl (i : Expr) : Prop := ∃ lo hi k1 k2 p1 p2 p3, i = .Slice (some (.Constant (.int lo) k1 p1)) (some (.Constant (.int hi) k2 p2)) none p3
theorem evName_some {x : Str} {d : PyData} (h : Γ x = some (d, false)) : evName T sc Γ x = .ok d := by unfold evName; rw [h]
theorem evName_own {x : Str} {d : PyData} (h : Γ x = some (d, true)) : evName T sc Γ x = .bad := by unfold evName; rw [h]
theorem evName_none {x : Str} (h : Γ x = none) : evName T sc Γ x = .guard (isGlob sc x) ((T.consts x).elim .bad fun i => .ok (.int i)) := by
  unfold evName; rw [h]
  cases T.consts x <;> rfl
section
variable (IH : Snd prog w BC T base xb A fr n) (W : World0 prog w BC T dep base mg mb) {Q : Value → Shared → Prop} (N : Now prog w base xb fr env sc z Γ s.heap)
include N
theorem sv_const {c : Const} {k : Nat} {pos : Pos} (F : Fine prog w BC xb fr z s Q E (ev T (n + 1) sc Γ (.Constant c k pos))) : wpAny (model prog w) A (eval (.Constant c k pos) env) Q E s := by
  cases c with
  | int => exact wpAny_Constant_int (F _ z s.heap _ (.refl N.on) (.int _ _))
  | none => exact wpAny_Constant_none (F _ z s.heap s.toks (.refl N.on) .none)
  | bool => exact wpAny_Constant_bool (F _ z s.heap s.toks (.refl N.on) (.bool _))
  | str => exact PySem.wpAny_Constant_str (F _ z s.heap _ (.refl N.on) (.str _ _))
  | _ => exact False.elim F
include W in
theorem sv_name {x : Str} {pos : Pos} (F : Fine prog w BC xb fr z s Q E (evName T sc Γ x)) : wpAny (model prog w) A (eval (.Name x pos) env) Q E s := by
  cases hΓ : Γ x with
  | some p =>
    obtain ⟨d, own⟩ := p
    cases own with
    | false =>
      rw [evName_some hΓ] at F
      obtain ⟨hd, v, H, _, r⟩ := N.vals _ _ _ hΓ
      exact name_rule H N.kind hd (F v z s.heap s.toks (.refl N.on) (r rfl))
    | true => rw [evName_own hΓ] at F; exact F.elim
  | none =>
    rw [evName_none hΓ] at F
    obtain ⟨hg, F⟩ := fine_guard F
    cases hi : T.consts x with
    | none => rw [hi] at F; exact F.elim
    | some i =>
      rw [hi] at F
      obtain ⟨⟨t, ht⟩, hd⟩ := W.consts _ _ hi
      exact glob_rule W N hg ht hd (F _ z s.heap s.toks (.refl N.on) (.int _ _))
include IH
theorem sv_bin {l r : Expr} {op : Operator} {pos : Pos} (F : Fine prog w BC xb fr z s Q E ((ev T n sc Γ l).bind fun a => (ev T n sc Γ r).bind fun b => binop op a b)) : wpAny (model prog w) A (eval (.BinOp l op r pos) env) Q E s := by
  refine wpAny_BinOp (fine_bind (IH.ev _ _ _ _ _ _ · _ N) F fun v d z₁ h₁ t₁ _ X p F' => ?_)
  refine fine_bind (IH.ev _ _ _ _ _ _ · _ (N.ext X)) F' fun v₂ d₂ z₂ h₂ t₂ _ X₂ p₂ F'' => ?_
  cases hb : binop op d d₂ with
  | ok r => rw [hb] at F''; exact binop_rule hb (p.mono X₂.le) p₂ X₂.on F''
  | exc => exact absurd hb binop_exc
  | bad => rw [hb] at F''; exact F''.elim
theorem sv_neg {x : Expr} {pos : Pos} (F : Fine prog w BC xb fr z s Q E (ev T (n + 1) sc Γ (.UnaryOp .USub x pos))) : wpAny (model prog w) A (eval (.UnaryOp .USub x pos) env) Q E s := by
  refine wpAny_UnaryOp (fine_bind (f := fun a : PyData => (match a with | PyData.int i => (Res.ok (PyData.int (-i)) : Res PyData) | _ => Res.bad)) (IH.ev _ _ _ _ _ _ · _ N) F fun v d z₁ h₁ t₁ _ X p F' => ?_)
  cases d with
  | int i => cases p with | int _ t => exact P.neg_int (F' _ z₁ h₁ _ (.refl X.on) (.int _ _))
  | _ => exact False.elim F'
theorem sv_not {x : Expr} {pos : Pos} (F : Fine prog w BC xb fr z s Q E ((evB T n sc Γ x).bind fun a => (truth a).bind fun b => .ok (.bool (!b)))) : wpAny (model prog w) A (eval (.UnaryOp .Not x pos) env) Q E s := by
  refine wpAny_UnaryOp (fine_bind (IH.evB _ _ _ _ _ _ · _ N) F fun v d z₁ h₁ t₁ _ X p F' => not_value ?_)
  cases ht : truth d with
  | ok b => rw [ht] at F'; exact truth_rule ht p X.on fun tk => F' _ z₁ h₁ tk (.refl X.on) (.bool _)
  | exc => exact absurd ht truth_exc
  | bad => rw [ht] at F'; exact F'.elim
theorem sv_if {t l r : Expr} {pos : Pos} (F : Fine prog w BC xb fr z s Q E ((evT T n sc Γ t).bind fun c => if c then ev T n sc Γ l else ev T n sc Γ r)) : wpAny (model prog w) A (eval (.IfExp t l r pos) env) Q E s := by
  refine wpAny_IfExp (fine_bind (IH.evT _ _ _ _ _ _ · _ N) F fun v d z₁ h₁ t₁ _ X p F' => ?_)
  subst p
  cases v with
  | true => exact IH.ev _ _ _ _ _ _ _ _ (N.ext X) F'
  | false => exact IH.ev _ _ _ _ _ _ _ _ (N.ext X) F'
theorem sv_cmp {l : Expr} {ops : List CmpOp} {rs : List Expr} {pos : Pos} (F : Fine prog w BC xb fr z s Q E ((ev T n sc Γ l).bind fun a => (evChain T n sc Γ a ops rs).bind fun b => .ok (.bool b))) : wpAny (model prog w) A (eval (.Compare l ops rs pos) env) Q E s := by
  rw [arm_eval_Compare]
  refine wpAny_bind (fine_bind (IH.ev _ _ _ _ _ _ · _ N) F fun v d z₁ h₁ t₁ _ X p F' => ?_)
  refine IH.evChain _ _ _ _ _ _ _ _ _ _ _ _ (N.ext X) p ?_
  revert F'
  cases evChain T n sc Γ d ops rs with
  | ok b => exact fun F' v z' h' tk Y r => F' v z' h' tk Y (by rw [r]; exact .bool _)
  | exc => exact fun F' => F'
  | bad => exact fun F' => F'
theorem sv_tup {es : List Expr} {k : Nat} {pos : Pos} (F : Fine prog w BC xb fr z s Q E ((evs T n sc Γ es).bind fun ds => .guard (decide (ds.length ≤ szMax)) (.ok (.tuple ds)))) : wpAny (model prog w) A (eval (.Tuple es k pos) env) Q E s := by
  refine wpAny_Tuple (fine_bind (IH.evs _ _ _ _ _ _ · _ _ N) F fun vs ds z₁ h₁ t₁ _ X p F' => ?_)
  obtain ⟨hl, F'⟩ := fine_guard F'
  have hl : ds.length ≤ szMax := by simpa using hl
  have hl' := p.length
  have hz := sizeLine_ge
  have hlen : vs.length ≤ sizeLine := hl' ▸ Nat.le_trans hl hz
  exact ⟨hlen, F' _ _ _ _ (Ext.push (o := tupO vs 0) X.on) (.tuple (n := 0) (Kept.put_self _ _ _) hlen (p.mono (Kept.put_le (none_of_on X.on (get_size_none _)))))⟩
theorem sv_list {es : List Expr} {pos : Pos} (F : Fine prog w BC xb fr z s Q E ((evs T n sc Γ es).bind fun ds => .guard (decide (ds.length ≤ szMax)) (.ok (.list ds)))) : wpAny (model prog w) A (eval (.List es pos) env) Q E s := by
  refine wpAny_List (fine_bind (IH.evs _ _ _ _ _ _ · _ _ N) F fun vs ds z₁ h₁ t₁ _ X p F' => ?_)
  obtain ⟨hl, F'⟩ := fine_guard F'
  have hl : ds.length ≤ szMax := by simpa using hl
  have hl' := p.length
  have hz := sizeLine_ge
  have hlen : vs.length ≤ sizeLine := hl' ▸ Nat.le_trans hl hz
  exact ⟨hlen, F' _ _ _ _ (Ext.push (o := lstO vs 0) X.on) (.list (n := 0) (Kept.put_self _ _ _) hlen (p.mono (Kept.put_le (none_of_on X.on (get_size_none _)))))⟩
omit N IH in
theorem slice_exc {d : PyData} {lo hi : Int} : slice d lo hi ≠ .exc := fun h => by
  cases d <;> first | (cases h; done) | (revert h; show Res.guard _ _ ≠ _; unfold Res.guard; split <;> (intro h; cases h))
omit N IH in
theorem index_exc {d k : PyData} : index d k ≠ .exc := fun h => by unfold index at h; (repeat' split at h) <;> cases h
theorem sv_slc {v : Expr} {lo hi : Int} {k1 k2 : Nat} {p1 p2 p3 pos : Pos} (F : Fine prog w BC xb fr z s Q E ((evB T n sc Γ v).bind fun d => slice d lo hi)) : wpAny (model prog w) A (eval (.Subscript v (.Slice (some (.Constant (.int lo) k1 p1)) (some (.Constant (.int hi) k2 p2)) none p3) pos) env) Q E s := by
  refine slice_rule (z₀ := z) (fine_bind (IH.evB _ _ _ _ _ _ · _ N) F fun v d z₁ h₁ t₁ _ X p F' => ?_)
  cases hs : slice d lo hi with
  | ok r => rw [hs] at F'; exact ⟨d, z₁, _, hs, p, X, F'⟩
  | exc => exact absurd hs slice_exc
  | bad => rw [hs] at F'; exact F'.elim
theorem sv_sub {v i : Expr} {pos : Pos} (F : Fine prog w BC xb fr z s Q E ((evB T n sc Γ v).bind fun d => (ev T n sc Γ i).bind fun k => index d k)) : wpAny (model prog w) A (eval (.Subscript v i pos) env) Q E s := by
  refine Subscript_ (fine_bind (IH.evB _ _ _ _ _ _ · _ N) F fun v d z₁ h₁ t₁ _ X p F' => ?_)
  refine fine_bind (IH.ev _ _ _ _ _ _ · _ (N.ext X)) F' fun v₂ d₂ z₂ h₂ t₂ hev X₂ p₂ F'' => ?_
  cases hi : index d d₂ with
  | ok r =>
    rw [hi] at F''
    refine index_rule hi (p.ext X₂) p₂ X₂.on (fun o i => ?_) fun v tk r => F'' v z₂ h₂ tk (.refl X₂.on) r
    exact ev_sub hev o i
  | exc => exact absurd hi index_exc
  | bad => rw [hi] at F''; exact F''.elim
omit N IH in
theorem ev_sub_inv (v : Expr) (pos : Pos) (i : Expr) : IsSl i ∨
    ev T (n + 1) sc Γ (.Subscript v i pos) = (evB T n sc Γ v).bind fun d => (ev T n sc Γ i).bind fun k => index d k := by
  cases i with
  | Slice lo hi st p3 => cases lo with
    | none => exact .inr rfl
    | some lo => cases lo with
      | Constant c k1 p1 => cases c with
        | int lo => cases hi with
          | none => exact .inr rfl
          | some hi => cases hi with
            | Constant c k2 p2 => cases c with
              | int hi => cases st with
                | none => exact .inl ⟨lo, hi, k1, k2, p1, p2, p3, rfl⟩
                | some _ => exact .inr rfl
              | _ => exact .inr rfl
            | _ => exact .inr rfl
        | _ => exact .inr rfl
      | _ => exact .inr rfl
  | _ => exact .inr rfl
include W in
theorem sv_get {x m : Str} {p1 apos pos : Pos} {args : List Expr} (F : Fine prog w BC xb fr z s Q E (ev T (n + 1) sc Γ (.Call (.Attribute (.Name x p1) m apos) args [] pos))) :
    wpAny (model prog w) A (eval (.Call (.Attribute (.Name x p1) m apos) args [] pos) env) Q E s := by
  obtain ⟨hg, F1⟩ := fine_guard F
  clear F
  simp only [Bool.and_eq_true, decide_eq_true_eq] at hg
  obtain ⟨⟨⟨⟨⟨hx, hm⟩, hg⟩, _⟩, hline⟩, hns⟩ := hg
  subst hx; subst hm
  cases args with
  | nil => exact False.elim F1
  | cons a args => cases args with
  | nil => exact False.elim F1
  | cons b args => cases args with
  | cons _ _ => exact False.elim F1
  | nil =>
  obtain ⟨ad, kvs, hmg, hsm, hdict, hrep⟩ := W.sorts
  have hst := notStar_ne (e := a) (by simp only [List.all_cons, Bool.and_eq_true] at hns; exact hns.1)
  have hst' := notStar_ne (e := b) (by simp only [List.all_cons, Bool.and_eq_true] at hns; exact hns.2.1)
  refine wpAny_Call_method2_late rfl hline (back_two hst hst') (glob_rule W N hg hmg (by decide) ?_)
  have hd1 : s.heap.DictOf (intKind prog w) ad kvs := hdict.keep N.hb
  refine ⟨"dict", "dict.get", PySem.F.plainAttrs_dict, PySem.F.slot_dict_get, PySem.F.type_dict_get, hd1.typeIs, hd1.mapOf.noDict, wpAny_dict_get2 (knd := intKind prog w) hsm ?_⟩
  refine fine_bind (IH.ev _ _ _ _ _ _ · _ N) F1 fun v d z₁ h₁ t₁ _ X p F' => ?_
  refine fine_bind (IH.ev _ _ _ _ _ _ · _ (N.ext X)) F' fun v₂ d₂ z₂ h₂ t₂ _ X₂ p₂ F'' => ?_
  cases d with
  | int i => cases d₂ with
    | int j =>
      cases p with | int _ t => cases p₂ with | int _ u =>
      refine ⟨i, _, intKind_is prog w i t, (hd1.keep fun b o e => X₂.keep b o (X.keep b o e)).mapOf, ?_⟩
      refine F'' _ z₂ h₂ _ (.refl X₂.on) ?_
      exact sorts_rep hrep
    | _ => exact False.elim F''
  | _ => exact False.elim F''
theorem sv_lc {elt : Expr} {gens : List Comprehension} {csc : Scope} {pos : Pos} (F : Fine prog w BC xb fr z s Q E ((evComp T n sc Γ elt gens csc).bind fun ds => .ok (.list ds))) : wpAny (model prog w) A (eval (.ListComp elt gens csc pos) env) Q E s := by
  refine IH.evComp _ _ _ _ _ _ _ _ _ _ _ N ?_
  revert F
  cases evComp T n sc Γ elt gens csc with
  | ok ds =>
    intro F v z' h' tk X ⟨D, ys, k, e, zD, hD, gD, R, hl⟩
    subst e
    exact F _ _ _ _ (X.put hD zD gD) (.list (Kept.put_self _ _ _) hl (R.mono (Kept.put_le zD)))
  | exc => exact fun F => F
  | bad => exact fun F => F
theorem sv_call {x : Str} {px pos : Pos} {args : List Expr} (F : Fine prog w BC xb fr z s Q E (ev T (n + 1) sc Γ (.Call (.Name x px) args [] pos))) : wpAny (model prog w) A (eval (.Call (.Name x px) args [] pos) env) Q E s := by
  have F : Fine prog w BC xb fr z s Q E (match Γ x with | some _ => .bad | none => .guard (isGlob sc x) (evCall T n sc Γ x args)) := F
  cases hΓ : Γ x with
  | some _ => rw [hΓ] at F; exact False.elim F
  | none =>
    rw [hΓ] at F
    obtain ⟨hg, F⟩ := fine_guard F
    exact IH.evCall _ _ _ _ _ _ _ _ _ _ _ N hg F
include W in
theorem snd_ev {e : Expr} (F : Fine prog w BC xb fr z s Q E (ev T (n + 1) sc Γ e)) : wpAny (model prog w) A (eval e env) Q E s := by
  cases e with
  | Constant c k pos => exact sv_const N F
  | Name x pos => exact sv_name W N F
  | BoolOp op es pos =>
    rw [arm_eval_BoolOp]
    exact IH.evBool _ _ _ _ _ _ _ _ _ _ N F
  | BinOp l op r pos => exact sv_bin IH N F
  | UnaryOp op x pos => cases op with
    | USub => exact sv_neg IH N F
    | Not => exact sv_not IH N F
    | _ => exact False.elim F
  | IfExp t l r pos => exact sv_if IH N F
  | Compare l ops rs pos => exact sv_cmp IH N F
  | Tuple es k pos => exact sv_tup IH N F
  | List es pos => exact sv_list IH N F
  | Subscript v i pos =>
    rcases ev_sub_inv (T := T) (n := n) (sc := sc) (Γ := Γ) v pos i with ⟨lo, hi, k1, k2, p1, p2, p3, rfl⟩ | h
    · exact sv_slc IH N F
    · rw [h] at F; exact sv_sub IH N F
  | ListComp elt gens csc pos => exact sv_lc IH N F
  | Call f args kws pos => cases kws with
    | cons _ _ => exact False.elim F
    | nil => cases f with
      | Name x px => exact sv_call IH N F
      | Attribute v m apos => cases v with
        | Name x p1 => exact sv_get IH W N F
        | _ => exact False.elim F
      | _ => exact False.elim F
  | _ => exact False.elim F
end

theorem snd (hR : Room A fr dep) (W : World0 prog w BC T dep base mg mb) : ∀ n, Snd prog w BC T base xb A fr n
  | 0 => snd_zero
  | n + 1 =>
    have IH := snd hR W n
    { ev := fun _ _ _ _ _ _ _ _ N F => snd_ev IH W N F
      evB := fun _ _ _ _ _ _ _ _ N F => snd_evB IH N F
      evs := fun _ _ _ _ _ _ _ _ _ N F => snd_evs IH N F
      evBool := fun _ _ _ _ _ _ _ _ _ _ N F => snd_evBool IH N F
      evT := fun _ _ _ _ _ _ _ _ N F => snd_evT IH N F
      evAll := fun _ _ _ _ _ _ _ _ _ N F => snd_evAll IH N F
      evChain := fun _ _ _ _ _ _ _ _ _ _ _ _ N r F => snd_evChain IH hR N r F
      evChainT := fun _ _ _ _ _ _ _ _ _ _ _ _ N r F => snd_evChainT IH hR N r F
      evIter := fun _ _ _ _ _ _ _ _ N F => snd_evIter IH W N F
      evCall := fun _ _ _ _ _ _ _ _ _ _ _ N hg F => snd_evCall IH hR W N hg F
      evComp := fun _ _ _ _ _ _ _ _ _ _ _ N F => snd_evComp IH hR N F }
end
end
section
inductive Out where
  | nxt (Γ : Vars)
  | ret (d : PyData)
  | exc
  | bad
noncomputable def Out.of {α : Type} : Res α → (α → Out) → Out
  | .ok a, f => f a
  | .exc, _ => .exc
  | .bad, _ => .bad
theorem Out.of_ok {α : Type} (a : α) (f : α → Out) : Out.of (.ok a) f = f a := rfl
theorem Out.of_exc {α : Type} (f : α → Out) : Out.of .exc f = .exc := rfl
theorem Out.of_bad {α : Type} (f : α → Out) : Out.of .bad f = .bad := rfl
noncomputable def Out.andThen : Out → (Vars → Out) → Out
  | .nxt Γ, f => f Γ
  | o, _ => o
theorem Out.andThen_nxt (Γ : Vars) (f : Vars → Out) : (Out.nxt Γ).andThen f = f Γ := rfl
theorem Out.andThen_ret (d : PyData) (f : Vars → Out) : (Out.ret d).andThen f = .ret d := rfl
theorem Out.andThen_exc (f : Vars → Out) : (Out.exc).andThen f = .exc := rfl
theorem Out.andThen_bad (f : Vars → Out) : (Out.bad).andThen f = .bad := rfl

noncomputable def forL (b : Vars → Out) (x : Str) : List PyData → Vars → Out
  | [], Γ => .nxt Γ
  | d :: r, Γ => (b (Γ.set x d false)).andThen (forL b x r)
noncomputable def whileL (t : Vars → Res Bool) (b : Vars → Out) : Nat → Vars → Out
  | 0, _ => .bad
  | k + 1, Γ => Out.of (t Γ) fun c => if c then (b Γ).andThen (whileL t b k) else .nxt Γ

noncomputable def isComp : Expr → Bool
  | .ListComp .. => true
  | .SetComp .. => true
  | .DictComp .. => true
  | .Set .. => true
  | _ => false

noncomputable def keyIs (k : Int) : PyData → Bool
  | .int i => decide (i = k)
  | _ => false
noncomputable def storeKV (k : Int) (d : PyData) (kvs : List (PyData × PyData)) : List (PyData × PyData) :=
  if kvs.any (fun e => keyIs k e.1) then kvs.map (fun e => if keyIs k e.1 then (e.1, d) else e) else kvs ++ [(.int k, d)]

noncomputable def storable (sc : Scope) (x : Str) : Bool := isLoc sc x && !(x == "__debug__") && !(x == "__classdict__")
noncomputable def loose : PyData → Bool
  | .none | .bool _ | .int _ => true
  | _ => false
noncomputable def turns : Nat := 100

noncomputable def evFor (T : Tab) (n : Nat) (sc : Scope) (Γ : Vars) (e : Expr) : Res (List PyData) := match e with
  | .Call (.Name x _) [a] [] _ =>
    if x = "range" then evIter T (n + 1) sc Γ e
    else (ev T n sc Γ e).bind fun d => (match d with | .list xs => .ok xs | .tuple xs => .ok xs | _ => .bad)
  | e => (ev T n sc Γ e).bind fun d => (match d with | .list xs => .ok xs | .tuple xs => .ok xs | _ => .bad)

mutual
noncomputable def ex (T : Tab) (frz : Nat → List Str) : Nat → Scope → Vars → Stmt → Out
  | 0, _, _, _ => .bad
  | n + 1, sc, Γ₀, st => match st with
    | .Expr e pos => (match e with
      | .Call (.Attribute (.Name x _) m apos) [e] [] cpos =>
        let Γ := Γ₀.freeze (frz pos.line)
        (match Γ x with
        | some (.list ds, true) => if m = "append" ∧ apos.endLine = cpos.line ∧ notStar e = true ∧ isComp e = false ∧ ds.length ≤ szMax then Out.of (ev T n sc Γ e) fun d => .nxt (Γ.set x (.list (ds ++ [d])) true) else .bad
        | _ => .bad)
      | e => let Γ := Γ₀.freeze (frz pos.line)
        if isComp e then .bad else Out.of (ev T n sc Γ e) fun d => if loose d then .nxt Γ else .bad)
    | .Return v pos => let Γ := Γ₀.freeze (frz pos.line); (match v with
      | some e => Out.of (ev T n sc Γ e) fun d => .ret d
      | none => .ret .none)
    | .Assign ts e pos => let Γ := Γ₀.freeze (frz pos.line); (match ts with
      | [.Name x xp] => if storable sc x then (match e with
        | .List [] _ => .nxt (Γ.set x (.list []) true)
        | .Dict [] [] _ => .nxt (Γ.set x (.dict []) true)
        | .ListComp elt gens csc cp =>
          if sc.names.lookup x = some .local then
            (if xp.line = cp.line ∧ (csc.names.any fun (n, k) => n == x && (k == .local || k == .cell)) = false then Out.of (evComp T n sc Γ elt gens csc) fun ds => .nxt (Γ.set x (.list ds) true) else .bad)
          else Out.of (ev T n sc Γ e) fun d => .nxt (Γ.set x d false)
        | e => if isComp e then .bad else Out.of (ev T n sc Γ e) fun d => .nxt (Γ.set x d false))
        else .bad
      | [.Tuple [.Name x _, .Name y _] _ _] => if storable sc x && storable sc y && !isComp e && !(x == y) then (match e with
          | .Tuple .. => .bad
          | e => Out.of (ev T n sc Γ e) fun d => (match d with
            | .tuple [a, b] => .nxt ((Γ.set x a false).set y b false)
            | _ => .bad)) else .bad
      | [.Subscript (.Name x _) i _] => (match Γ x with
        | some (.dict kvs, true) => if kvs.length ≤ szMax then Out.of (ev T n sc Γ e) fun d => Out.of (ev T n sc Γ i) fun k => (match k with
          | .int k => .nxt (Γ.set x (.dict (storeKV k d kvs)) true)
          | _ => .bad) else .bad
        | some (.list ds, true) => Out.of (ev T n sc Γ e) fun d => Out.of (ev T n sc Γ i) fun k => (match k with
          | .int k => if 0 ≤ k ∧ k < ds.length then .nxt (Γ.set x (.list (ds.set k.toNat d)) true) else .bad
          | _ => .bad)
        | _ => .bad)
      | _ => .bad)
    | .AugAssign (.Name x _) op e pos => let Γ := Γ₀.freeze (frz pos.line)
      (match op, Γ x with
      | .Add, some (.int i, _) => if storable sc x then Out.of (ev T n sc Γ e) fun d => (match d with
        | .int j => .nxt (Γ.set x (.int (i + j)) false)
        | _ => .bad) else .bad
      | _, _ => .bad)
    | .If t b o pos => let Γ := Γ₀.freeze (frz pos.line)
      Out.of (evT T n sc Γ t) fun c => if c then exs T frz n sc Γ b else exs T frz n sc Γ o
    | .While t b [] pos => let Γ := Γ₀.freeze (frz pos.line)
      whileL (fun Γ => evT T n sc Γ t) (fun Γ => exs T frz n sc Γ b) turns Γ
    | .For (.Name x _) it b [] pos => let Γ := Γ₀.freeze (frz pos.line)
      if storable sc x then Out.of (evFor T n sc Γ it) fun ds => forL (fun Γ => exs T frz n sc Γ b) x ds Γ else .bad
    | .Raise (some (.Call (.Name c _) args [] _)) none _ =>
      if c = "BadCode" ∧ isGlob sc c = true ∧ Γ₀ c = none ∧ args.all notStar = true ∧ args.length = 2 then (match evs T n sc Γ₀ args with | .ok _ => .exc | _ => .bad) else .bad
    | _ => .bad
noncomputable def exs (T : Tab) (frz : Nat → List Str) : Nat → Scope → Vars → List Stmt → Out
  | 0, _, _, _ => .bad
  | n + 1, sc, Γ, sts => match sts with
    | [] => .nxt Γ
    | st :: r => (ex T frz n sc Γ st).andThen fun Γ' => exs T frz n sc Γ' r
end

/-- a whole def: its names, its text, its arguments -/
noncomputable def bindV (names : List Str) (ds : List PyData) : Vars := fun x => (names.zip ds).lookup x |>.map fun d => (d, false)
noncomputable def runDef (T : Tab) (frz : Nat → List Str) (n : Nat) (sc : Scope) (names : List Str) (body : List Stmt) (ds : List PyData) : Res PyData :=
  if names.length = ds.length then (match exs T frz n sc (bindV names ds) body with
    | .nxt _ => .ok .none
    | .ret d => .ok d
    | .exc => .exc
    | .bad => .bad) else .bad
end
section
/-- frames that stand in what is old -/
noncomputable def KFrames (old : Kept) (xb : Heap) : List Env → Prop
  | [] => True
  | e :: r => e.scope.kind ≠ .module ∧ (∃ L o, e.frame = some L ∧ xb.get? L = none ∧ old L = some o ∧ ∀ vs, o.data ≠ .fields vs) ∧ KFrames old xb r
theorem KFrames.mono {old old' : Kept} {xb : Heap} (k : old.le old') : ∀ {l : List Env}, KFrames old xb l → KFrames old' xb l
  | [], _ => trivial
  | _ :: _, ⟨a, ⟨L, o, h1, h2, h3, h4⟩, r⟩ => ⟨a, ⟨L, o, h1, h2, k _ _ h3, h4⟩, r.mono k⟩
theorem KFrames.on {old : Kept} {xb h : Heap} (k : old.on h) : ∀ {l : List Env}, KFrames old xb l → h.FunFrames xb l
  | [], _ => trivial
  | _ :: _, ⟨a, ⟨L, o, h1, h2, h3, h4⟩, r⟩ => ⟨a, ⟨L, o, h1, h2, k _ _ h3, h4⟩, r.on k⟩
theorem KFrames.of {xb h : Heap} : ∀ {l : List Env}, h.FunFrames xb l → KFrames h.get? xb l
  | [], _ => trivial
  | _ :: _, ⟨a, b, r⟩ => ⟨a, b, KFrames.of r⟩

section
variable (prog : Program) (w : World)
/-- an open list or dict of the frame's own -/
inductive Own (z : Kept) (h : Heap) (a : Addr) : PyData → Prop
  | list {vs : List Value} {n : Nat} {ds : List PyData} : h.get? a = some (lstO vs n) → vs.length ≤ sizeLine → Reps prog w z vs ds → Own z h a (.list ds)
  | dict {o : Obj} {kvs : List (Int × Value)} {ds : List (PyData × PyData)} : h.get? a = some o → o.IsDictOf (intKind prog w) kvs → RepKV prog w z kvs ds → Own z h a (.dict ds)
end
section
variable {prog : Program} {w : World}
theorem Own.shal {z : Kept} {h : Heap} {a : Addr} {d : PyData} : Own prog w z h a d → Shal prog w z h (.ref a) d
  | .list h1 h2 h3 => .list h1 h2 h3
  | .dict h1 h2 h3 => .dict h1 h2 h3
theorem Own.at {z z' : Kept} {h h' : Heap} {a : Addr} {d : PyData} (k : z.le z') (g : ∀ o, h.get? a = some o → h'.get? a = some o) : Own prog w z h a d → Own prog w z' h' a d
  | .list h1 h2 h3 => .list (g _ h1) h2 (h3.mono k)
  | .dict h1 h2 h3 => .dict (g _ h1) h2 (h3.mono k)
theorem Own.get {z : Kept} {h : Heap} {a : Addr} {d : PyData} : Own prog w z h a d → ∃ o, h.get? a = some o
  | .list h1 _ _ => ⟨_, h1⟩
  | .dict h1 _ _ => ⟨_, h1⟩

structure St (prog : Program) (w : World) (base xb : Heap) (outer : List Env) (env : Env) (sc : Scope) (old z : Kept) (Γ : Vars) (h : Heap) : Prop where
  kind : env.scope.kind = .function
  glob : env.globals = mainGlobals
  bi : env.builtins = builtinsNs
  frame : env.frame = some env.locals
  isG : ∀ x, isGlob sc x = true → env.kindOf x = some .globalImplicit
  isC : ∀ x, sc.names.lookup x = some .cell ∨ sc.names.lookup x = some .free → env.kindOf x = some .cell ∨ env.kindOf x = some .free
  isL : ∀ x, sc.names.lookup x = some .local → env.kindOf x = some .local
  pl : ∀ x, storable sc x = true → ∃ p, Place env h x p ∧ old p = none ∧ z p = none
  inj : ∀ x y p, env.cells.lookup x = some p → env.cells.lookup y = some p → x = y
  hb : ∀ a o, base.get? a = some o → old a = some o
  hxb : ∀ a o, xb.get? a = some o → old a = some o
  keep : old.on h
  on : z.on h
  ns : ∃ m, h.Ns env.locals m
  Lold : old env.locals = none ∧ z env.locals = none
  fr : KFrames old xb outer
  vals : ∀ x d own, Γ x = some (d, own) → (x == ("__debug__" : Str)) = false ∧ ∃ v, Holds env h x v ∧ (own = false → Rep prog w z v d) ∧ (own = true → ∃ a, v = .ref a ∧ old a = none ∧ z a = none ∧ a ≠ env.locals ∧ Own prog w z h a d)
  sep : ∀ x y d d' a, Γ x = some (d, true) → Γ y = some (d', true) → Holds env h x (.ref a) → Holds env h y (.ref a) → x = y

theorem Holds.fun {env : Env} {h : Heap} {x : Str} {v v' : Value} (a : Holds env h x v) (b : Holds env h x v') : v = v' := by
  rcases a with ⟨k, m, hn, hv⟩ | ⟨_, k, c, hc, hv⟩
  · rcases b with ⟨_, m', hn', hv'⟩ | ⟨_, k', _⟩
    · rw [hn.eq_nsMap] at hv; rw [hn'.eq_nsMap] at hv'; rw [hv] at hv'; exact Option.some.inj hv'
    · rw [k] at k'; rcases k' with e | e <;> cases e
  · rcases b with ⟨k', _⟩ | ⟨_, _, c', hc', hv'⟩
    · rw [k'] at k; rcases k with e | e <;> cases e
    · rw [hc] at hc'; cases hc'
      obtain ⟨o, h1, h2⟩ := hv; obtain ⟨o', h1', h2'⟩ := hv'
      rw [h1] at h1'; cases h1'; rw [h2] at h2'; cases h2'; rfl

variable {base xb : Heap} {outer : List Env} {env : Env} {sc : Scope} {old z z' : Kept} {Γ : Vars} {h h' : Heap}

theorem St.ff (S : St prog w base xb outer env sc old z Γ h) : h.FunFrames xb (env :: outer) := by
  refine ⟨by rw [S.kind]; decide, ?_, S.fr.on S.keep⟩
  obtain ⟨m, o, es, ep, ho, hd, _⟩ := S.ns
  refine ⟨env.locals, o, S.frame, ?_, ho, fun vs q => by rw [hd] at q; cases q⟩
  cases q : xb.get? env.locals with
  | none => rfl
  | some o' => have := S.hxb _ _ q; rw [S.Lold.1] at this; cases this

theorem St.now (S : St prog w base xb outer env sc old z Γ h) : Now prog w base xb (env :: outer) env sc z Γ h where
  kind := S.kind
  glob := S.glob
  bi := S.bi
  isG := S.isG
  isC := S.isC
  hb := fun a o e => S.keep a o (S.hb a o e)
  on := S.on
  hxb := fun a o e => S.keep a o (S.hxb a o e)
  ff := S.ff
  vals := fun x d own e => by
    obtain ⟨hd, v, H, r, o⟩ := S.vals x d own e
    refine ⟨hd, v, H, ?_, r⟩
    cases own with
    | false => exact .rep (r rfl)
    | true => obtain ⟨a, rfl, _, _, _, O⟩ := o rfl; exact O.shal

theorem Holds.get {env : Env} {h : Heap} {x : Str} {v : Value} (H : Holds env h x v) : ∃ p o, h.get? p = some o ∧ ((∃ m, h.Ns p m) ∨ ∃ v, h.IsCell p v) := by
  rcases H with ⟨_, m, hn, _⟩ | ⟨_, _, c, _, hv⟩
  · obtain ⟨o, es, ep, ho, r⟩ := id hn; exact ⟨_, o, ho, .inl ⟨m, hn⟩⟩
  · obtain ⟨o, ho, _⟩ := id hv; exact ⟨_, o, ho, .inr ⟨_, hv⟩⟩

/-- an expression's step -/
theorem St.ext (S : St prog w base xb outer env sc old z Γ h) (X : Ext z z' h h') : St prog w base xb outer env sc old z' Γ h' := by
  have zn : ∀ {a : Addr} {o : Obj}, h.get? a = some o → z a = none → z' a = none := fun e q => (X.old _ _ e).trans q
  refine { S with pl := ?_, keep := fun a o e => X.keep a o (S.keep a o e), on := X.on, ns := ?_, Lold := ?_, vals := ?_, sep := ?_ }
  · intro x hx
    obtain ⟨p, P, h1, h2⟩ := S.pl x hx
    obtain ⟨o, ho⟩ := P.get
    exact ⟨p, P.keeps fun o e => X.keep _ _ e, h1, zn ho h2⟩
  · obtain ⟨m, hn⟩ := S.ns; exact ⟨m, hn.keeps X.keep⟩
  · obtain ⟨m, o, _, _, ho, _⟩ := S.ns; exact ⟨S.Lold.1, zn ho S.Lold.2⟩
  · intro x d own e
    obtain ⟨hd, v, H, r, o⟩ := S.vals x d own e
    refine ⟨hd, v, H.keeps X.keep, fun q => (r q).mono X.le, fun q => ?_⟩
    obtain ⟨a, rfl, h1, h2, h3, O⟩ := o q
    obtain ⟨ob, hob⟩ := O.get
    exact ⟨a, rfl, h1, zn hob h2, h3, O.at X.le fun o e => X.keep _ _ e⟩
  · intro x y d d' a e1 e2 H1 H2
    obtain ⟨_, v1, K1, _, _⟩ := S.vals x d true e1
    obtain ⟨_, v2, K2, _, _⟩ := S.vals y d' true e2
    have q1 := (K1.keeps X.keep).fun H1
    have q2 := (K2.keeps X.keep).fun H2
    subst q1; subst q2
    exact S.sep x y d d' a e1 e2 K1 K2

/-- a mutable place: not old, not kept -/
theorem St.sameBut_keep {p : Addr} (S : St prog w base xb outer env sc old z Γ h) (hs : Heap.SameBut p h h') (h1 : old p = none) (h2 : z p = none) : old.on h' ∧ z.on h' :=
  ⟨fun a o e => SameBut.get hs (S.keep a o e) fun q => (by rw [q, h1] at e; cases e), fun a o e => SameBut.get hs (S.on a o e) fun q => (by rw [q, h2] at e; cases e)⟩

/-- the place is none of the open lists' -/
theorem place_own {p a : Addr} {x : Str} {d : PyData} (P : Place env h x p) (O : Own prog w z h a d) (n : a ≠ env.locals) : a ≠ p := by
  intro q
  subst q
  rcases P with ⟨_, e, _⟩ | ⟨_, _, _, v, o, ho, hd⟩
  · exact n e
  · cases O with
    | list h1 _ _ => rw [ho] at h1; cases h1; cases hd
    | dict h1 h2 _ => rw [ho] at h1; cases h1; obtain ⟨es, ep, _, hd', _⟩ := h2; rw [hd] at hd'; cases hd'

theorem St.set {x : Str} {d : PyData} {own : Bool} {v : Value} {p : Addr} (S : St prog w base xb outer env sc old z Γ h) (hx : storable sc x = true) (P : Place env h x p) (p1 : old p = none) (p2 : z p = none)
    (hs : Heap.SameBut p h h') (P' : Place env h' x p) (H : Holds env h' x v) (oth : ∀ y v', y ≠ x → Holds env h y v' → Holds env h' y v') (ns' : ∃ m, h'.Ns env.locals m)
    (r : own = false → Rep prog w z v d) (o : own = true → ∃ a, v = .ref a ∧ old a = none ∧ z a = none ∧ a ≠ env.locals ∧ Own prog w z h a d ∧ ∀ y d', y ≠ x → Γ y = some (d', true) → ¬ Holds env h y (.ref a)) :
    St prog w base xb outer env sc old z (Γ.set x d own) h' := by
  obtain ⟨k1, k2⟩ := S.sameBut_keep hs p1 p2
  have oat : ∀ {a : Addr} {d : PyData}, a ≠ env.locals → Own prog w z h a d → Own prog w z h' a d := fun n O => O.at z.le_refl fun ob e => SameBut.get hs e (place_own P O n)
  have vv : ∀ y d₁ own₁, (Γ.set x d own) y = some (d₁, own₁) → (y == ("__debug__" : Str)) = false ∧ ∃ v₁, Holds env h' y v₁ ∧ (own₁ = false → Rep prog w z v₁ d₁) ∧ (own₁ = true → ∃ a, v₁ = .ref a ∧ old a = none ∧ z a = none ∧ a ≠ env.locals ∧ Own prog w z h' a d₁) := by
    intro y d₁ own₁ e
    unfold Vars.set at e
    by_cases q : y = x
    · subst q
      rw [if_pos rfl] at e
      obtain ⟨rfl, rfl⟩ : d = d₁ ∧ own = own₁ := by simpa using e
      refine ⟨?_, v, H, r, fun q => ?_⟩
      · simp only [storable, Bool.and_eq_true, Bool.not_eq_true'] at hx; exact hx.1.2
      · obtain ⟨a, e1, e2, e3, e4, e5, _⟩ := o q
        exact ⟨a, e1, e2, e3, e4, oat e4 e5⟩
    · rw [if_neg q] at e
      obtain ⟨hd, v₁, H₁, r₁, o₁⟩ := S.vals y d₁ own₁ e
      refine ⟨hd, v₁, oth y v₁ q H₁, r₁, fun t => ?_⟩
      obtain ⟨a, e1, e2, e3, e4, e5⟩ := o₁ t
      exact ⟨a, e1, e2, e3, e4, oat e4 e5⟩
  refine { S with pl := ?_, keep := k1, on := k2, ns := ns', vals := vv, sep := ?_ }
  · intro y hy
    obtain ⟨py, Py, q1, q2⟩ := S.pl y hy
    by_cases q : py = p
    · subst q
      refine ⟨py, ?_, q1, q2⟩
      rcases Py with ⟨a, b, _⟩ | ⟨a, b, c, v0, o0, ho0, hd0⟩
      · obtain ⟨m, hm⟩ := ns'; exact .inl ⟨a, b, m, b ▸ hm⟩
      · rcases P' with ⟨_, e, m, o1, es, ep, ho1, hd1, _⟩ | ⟨_, _, c', v', hv'⟩
        · rcases P with ⟨_, _, m2, o2, _, _, ho2, hd2, _⟩ | ⟨_, _, _, v3, _⟩
          · rw [ho0] at ho2; cases ho2; rw [hd0] at hd2; cases hd2
          · obtain ⟨m, o2, es2, ep2, ho2, hd2, _⟩ := S.ns
            rw [← e, ho0] at ho2; cases ho2; rw [hd0] at hd2; cases hd2
        · exact .inr ⟨a, b, c, v', hv'⟩
    · exact ⟨py, Py.keeps fun o e => SameBut.get hs e q, q1, q2⟩
  · intro y y' d₁ d₂ a e1 e2 H1 H2
    have key : ∀ {y : Str} {d₁ : PyData}, y ≠ x → (Γ.set x d own) y = some (d₁, true) → Holds env h' y (.ref a) → Γ y = some (d₁, true) ∧ Holds env h y (.ref a) := by
      intro y d₁ q e H
      unfold Vars.set at e
      rw [if_neg q] at e
      obtain ⟨_, v₁, H₁, _, _⟩ := S.vals y d₁ true e
      have := (oth y v₁ q H₁).fun H
      subst this
      exact ⟨e, H₁⟩
    by_cases q : y = x
    · by_cases q' : y' = x
      · rw [q, q']
      · exfalso
        subst q
        obtain ⟨f2, K2⟩ := key q' e2 H2
        unfold Vars.set at e1
        rw [if_pos rfl] at e1
        obtain ⟨rfl, rfl⟩ : d = d₁ ∧ own = true := by simpa using e1
        obtain ⟨b, rfl, _, _, _, _, hno⟩ := o rfl
        have := H.fun H1
        cases this
        exact hno y' d₂ q' f2 K2
    · by_cases q' : y' = x
      · exfalso
        subst q'
        obtain ⟨f1, K1⟩ := key q e1 H1
        unfold Vars.set at e2
        rw [if_pos rfl] at e2
        obtain ⟨rfl, rfl⟩ : d = d₂ ∧ own = true := by simpa using e2
        obtain ⟨b, rfl, _, _, _, _, hno⟩ := o rfl
        have := H.fun H2
        cases this
        exact hno y d₁ q f1 K1
      · obtain ⟨f1, K1⟩ := key q e1 H1
        obtain ⟨f2, K2⟩ := key q' e2 H2
        exact S.sep y y' d₁ d₂ a f1 f2 K1 K2
end

section
variable {M : Model} {A : Around} {E : Value → Shared → Prop} {s : Shared} {prog : Program} {w : World} {base xb : Heap} {outer : List Env} {env : Env} {sc : Scope} {old z : Kept} {Γ : Vars}
theorem store_full {x : Str} {p : Addr} {v : Value} {Q : Unit → Shared → Prop} (P : Place env s.heap x p) (hk : env.scope.kind = .function) (inj : ∀ x y p, env.cells.lookup x = some p → env.cells.lookup y = some p → x = y) (ns : ∃ m, s.heap.Ns env.locals m)
    (h : ∀ h' tk, Heap.SameBut p s.heap h' → Place env h' x p → Holds env h' x v → (∀ y v', y ≠ x → Holds env s.heap y v' → Holds env h' y v') → (∃ m, h'.Ns env.locals m) → Q () { s with heap := h', toks := tk }) : wpAny M A (storeName env x v) Q E s := by
  rcases P with ⟨a, b, m, hn⟩ | ⟨a, b, c, v0, hv⟩
  · subst b
    refine wpAny_storeName_local a hn (fun h' hn' hs => h h' _ hs (.inl ⟨a, rfl, _, hn'⟩) (.inl ⟨a, _, hn', by simp⟩) (fun y v' hy H => ?_) ⟨_, hn'⟩) ?_
    · rcases H with ⟨k, m', hm', hv'⟩ | ⟨k0, k, c, hc, hv'⟩
      · refine .inl ⟨k, _, hn', ?_⟩
        rw [hm'.eq_nsMap] at hv'
        rw [hn.eq_nsMap]
        simp [hy, hv']
      · refine .inr ⟨k0, k, c, hc, ?_⟩
        obtain ⟨o, ho, hd⟩ := hv'
        refine ⟨o, SameBut.get hs ho fun q => ?_, hd⟩
        obtain ⟨o', es, ep, ho', hd', _⟩ := hn
        rw [q, ho'] at ho; cases ho; rw [hd] at hd'; cases hd'
    · rw [hk]; rfl
  · refine wpAny_storeName_cell hk b c hv fun h' hv' hs => h h' s.toks hs (.inr ⟨a, b, c, _, hv'⟩) (.inr ⟨a, .inl b, p, c, hv'⟩) (fun y v' hy H => ?_) ?_
    · rcases H with ⟨k, m', hm', hv''⟩ | ⟨k0, k, c', hc', hv''⟩
      · refine .inl ⟨k, m', hm'.sameBut hs fun q => ?_, hv''⟩
        obtain ⟨o', es, ep, ho', hd', _⟩ := hm'
        obtain ⟨o, ho, hd⟩ := hv
        rw [q, ho] at ho'; cases ho'; rw [hd] at hd'; cases hd'
      · refine .inr ⟨k0, k, c', hc', ?_⟩
        have : c' ≠ p := fun q => by subst q; exact hy (inj _ _ _ hc' c)
        exact hv''.sameBut hs this
    · obtain ⟨m, hm⟩ := ns
      refine ⟨m, hm.sameBut hs fun q => ?_⟩
      obtain ⟨o', es, ep, ho', hd', _⟩ := hm
      obtain ⟨o, ho, hd⟩ := hv
      rw [q, ho] at ho'; cases ho'; rw [hd] at hd'; cases hd'

/-- a name takes a kept value -/
theorem St.store {x : Str} {v : Value} {d : PyData} {Q : Unit → Shared → Prop} (S : St prog w base xb outer env sc old z Γ s.heap) (hx : storable sc x = true) (r : Rep prog w z v d)
    (h : ∀ h' tk, St prog w base xb outer env sc old z (Γ.set x d false) h' → Q () { s with heap := h', toks := tk }) : wpAny M A (storeName env x v) Q E s := by
  obtain ⟨p, P, p1, p2⟩ := S.pl x hx
  exact store_full P S.kind S.inj S.ns fun h' tk hs P' H oth ns' => h h' tk (S.set hx P p1 p2 hs P' H oth ns' (fun _ => r) fun q => by cases q)

/-- a name takes a new list or dict of the frame's own -/
theorem St.storeOwn {x : Str} {a : Addr} {d : PyData} {Q : Unit → Shared → Prop} (S : St prog w base xb outer env sc old z Γ s.heap) (hx : storable sc x = true) (a1 : old a = none) (a2 : z a = none) (a3 : a ≠ env.locals) (O : Own prog w z s.heap a d)
    (hno : ∀ y d', y ≠ x → Γ y = some (d', true) → ¬ Holds env s.heap y (.ref a))
    (h : ∀ h' tk, St prog w base xb outer env sc old z (Γ.set x d true) h' → Q () { s with heap := h', toks := tk }) : wpAny M A (storeName env x (.ref a)) Q E s := by
  obtain ⟨p, P, p1, p2⟩ := S.pl x hx
  exact store_full P S.kind S.inj S.ns fun h' tk hs P' H oth ns' => h h' tk (S.set hx P p1 p2 hs P' H oth ns' (fun q => by cases q) fun _ => ⟨a, rfl, a1, a2, a3, O, hno⟩)
end
end
section
section
variable {prog : Program} {w : World} {base xb : Heap} {outer : List Env} {env : Env} {sc : Scope} {old z z' : Kept} {Γ : Vars} {h h' : Heap}

/-- an open list or dict is changed -/
theorem St.mutate {x : Str} {d d' : PyData} {a : Addr} (S : St prog w base xb outer env sc old z Γ h) (e : Γ x = some (d, true)) (H : Holds env h x (.ref a)) (hs : Heap.SameBut a h h') (O : Own prog w z h' a d') :
    St prog w base xb outer env sc old z (Γ.set x d' true) h' := by
  obtain ⟨_, v, H', _, o⟩ := S.vals x d true e
  obtain ⟨a', rfl, a1, a2, a3, O₀⟩ := o rfl
  have := H'.fun H; cases this
  obtain ⟨k1, k2⟩ := S.sameBut_keep hs a1 a2
  have hns : ∀ {m}, h.Ns env.locals m → h'.Ns env.locals m := fun hm => hm.sameBut hs (Ne.symm a3)
  have hcell : ∀ {c v}, h.IsCell c v → h'.IsCell c v := fun {c v} hv => hv.sameBut hs fun q => by
    subst q
    obtain ⟨ob, ho, hd⟩ := hv
    cases O₀ with
    | list h1 _ _ => rw [ho] at h1; cases h1; cases hd
    | dict h1 h2 _ => rw [ho] at h1; cases h1; obtain ⟨es, ep, _, hd', _⟩ := h2; rw [hd] at hd'; cases hd'
  have hH : ∀ {y v}, Holds env h y v → Holds env h' y v := fun {y v} H => by
    rcases H with ⟨k, m, hm, hv⟩ | ⟨k0, k, c, hc, hv⟩
    · exact .inl ⟨k, m, hns hm, hv⟩
    · exact .inr ⟨k0, k, c, hc, hcell hv⟩
  have hH' : ∀ {y d v}, Γ y = some (d, true) → Holds env h' y v → Holds env h y v := fun {y d v} e H => by
    obtain ⟨_, v', K, _, _⟩ := S.vals y d true e
    have := (hH K).fun H; subst this; exact K
  refine { S with pl := ?_, keep := k1, on := k2, ns := ?_, vals := ?_, sep := ?_ }
  · intro y hy
    obtain ⟨p, P, q1, q2⟩ := S.pl y hy
    refine ⟨p, ?_, q1, q2⟩
    rcases P with ⟨k, e, m, hm⟩ | ⟨k0, k, hc, v, hv⟩
    · subst e; exact .inl ⟨k, rfl, m, hns hm⟩
    · exact .inr ⟨k0, k, hc, v, hcell hv⟩
  · obtain ⟨m, hm⟩ := S.ns; exact ⟨m, hns hm⟩
  · intro y d₁ own₁ ey
    unfold Vars.set at ey
    by_cases q : y = x
    · subst q
      rw [if_pos rfl] at ey
      obtain ⟨rfl, rfl⟩ : d' = d₁ ∧ true = own₁ := by simpa using ey
      exact ⟨(S.vals y d true e).1, .ref a, hH H, fun q => (by cases q), fun _ => ⟨a, rfl, a1, a2, a3, O⟩⟩
    · rw [if_neg q] at ey
      obtain ⟨hd, v, K, r, o⟩ := S.vals y d₁ own₁ ey
      refine ⟨hd, v, hH K, r, fun t => ?_⟩
      obtain ⟨b, rfl, b1, b2, b3, Ob⟩ := o t
      subst t
      refine ⟨b, rfl, b1, b2, b3, Ob.at z.le_refl fun ob eb => SameBut.get hs eb fun t => ?_⟩
      subst t
      exact q (S.sep y x d₁ d b ey e K H)
  · intro y y' d₁ d₂ b e1 e2 H1 H2
    have key : ∀ {y : Str} {d₁ : PyData}, (Γ.set x d' true) y = some (d₁, true) → ∃ d₀, Γ y = some (d₀, true) := by
      intro y d₁ e'
      unfold Vars.set at e'
      by_cases q : y = x
      · subst q; exact ⟨d, e⟩
      · rw [if_neg q] at e'; exact ⟨_, e'⟩
    obtain ⟨_, f1⟩ := key e1
    obtain ⟨_, f2⟩ := key e2
    exact S.sep y y' _ _ b f1 f2 (hH' f1 H1) (hH' f2 H2)

structure Tr (old z z' : Kept) : Prop where
  le : z.le z'
  old : ∀ a o, old a = some o → z' a = z a
theorem Tr.refl (old z : Kept) : Tr old z z := ⟨z.le_refl, fun _ _ _ => rfl⟩
theorem Tr.trans {old z z₁ z₂ : Kept} (x : Tr old z z₁) (y : Tr old z₁ z₂) : Tr old z z₂ := ⟨Kept.le_trans x.le y.le, fun a o e => (y.old a o e).trans (x.old a o e)⟩
theorem Ext.tr {old z z' : Kept} {h h' : Heap} (X : Ext z z' h h') (on : old.on h) : Tr old z z' := ⟨X.le, fun a o e => X.old a o (on a o e)⟩
theorem Tr.less {old old' z z' : Kept} (x : Tr old' z z') (k : old.le old') : Tr old z z' := ⟨x.le, fun a o e => x.old a o (k a o e)⟩

theorem Own.kept {a : Addr} {d : PyData} (O : Own prog w z h a d) (hz : z a = none) : ∃ o, h.get? a = some o ∧ Rep prog w (z.put a o) (.ref a) d := by
  cases O with
  | list h1 h2 h3 => exact ⟨_, h1, .list (Kept.put_self _ _ _) h2 (h3.mono (Kept.put_le hz))⟩
  | dict h1 h2 h3 => exact ⟨_, h1, .dict (Kept.put_self _ _ _) h2 (h3.mono (Kept.put_le hz))⟩

/-- one open list is closed for good -/
theorem St.freeze1 (x : Str) (S : St prog w base xb outer env sc old z Γ h) : ∃ z', Tr old z z' ∧ St prog w base xb outer env sc old z' (fun y => if y = x then (Γ y).map (fun p => (p.1, false)) else Γ y) h := by
  have same : (∀ d, Γ x ≠ some (d, true)) → (fun y => if y = x then (Γ y).map (fun p => (p.1, false)) else Γ y) = Γ := by
    intro hn
    funext y
    by_cases q : y = x
    · subst q
      rw [if_pos rfl]
      cases g : Γ y with
      | none => rfl
      | some p =>
        obtain ⟨d, own⟩ := p
        cases own with
        | false => rfl
        | true => exact absurd g (hn d)
    · rw [if_neg q]
  by_cases hx : ∃ d, Γ x = some (d, true)
  · obtain ⟨d, e⟩ := hx
    obtain ⟨hd, v, H, _, o⟩ := S.vals x d true e
    obtain ⟨a, rfl, a1, a2, a3, O⟩ := o rfl
    obtain ⟨ob, hob, R⟩ := O.kept a2
    have le : z.le (z.put a ob) := Kept.put_le a2
    have ne : ∀ {b : Addr}, z b = none → b ≠ a → (z.put a ob) b = none := fun hb n => by unfold Kept.put; rw [if_neg n]; exact hb
    refine ⟨z.put a ob, ⟨le, fun b o' eb => ?_⟩, ?_⟩
    · unfold Kept.put
      rw [if_neg (fun q => by rw [q, a1] at eb; cases eb)]
    have vv : ∀ y d₁ own₁, (if y = x then (Γ y).map (fun p => (p.1, false)) else Γ y) = some (d₁, own₁) → (y = x ∧ d₁ = d ∧ own₁ = false) ∨ (y ≠ x ∧ Γ y = some (d₁, own₁)) := by
      intro y d₁ own₁ ey
      by_cases q : y = x
      · subst q
        rw [if_pos rfl, e] at ey
        simp at ey
        exact .inl ⟨rfl, ey.1.symm, ey.2⟩
      · rw [if_neg q] at ey; exact .inr ⟨q, ey⟩
    refine { S with pl := ?_, on := ?_, Lold := ?_, vals := ?_, sep := ?_ }
    · intro y hy
      obtain ⟨p, P, q1, q2⟩ := S.pl y hy
      exact ⟨p, P, q1, ne q2 fun q => place_own P O a3 q.symm⟩
    · intro b o' eb
      unfold Kept.put at eb
      by_cases q : b = a
      · subst q; rw [if_pos rfl] at eb; cases eb; exact hob
      · rw [if_neg q] at eb; exact S.on b o' eb
    · exact ⟨S.Lold.1, ne S.Lold.2 (Ne.symm a3)⟩
    · intro y d₁ own₁ ey
      rcases vv y d₁ own₁ ey with ⟨rfl, rfl, rfl⟩ | ⟨q, ey⟩
      · exact ⟨hd, .ref a, H, fun _ => R, fun q => by cases q⟩
      · obtain ⟨hd', v, K, r, o⟩ := S.vals y d₁ own₁ ey
        refine ⟨hd', v, K, fun t => (r t).mono le, fun t => ?_⟩
        obtain ⟨b, rfl, b1, b2, b3, Ob⟩ := o t
        subst t
        have hba : b ≠ a := fun t => by subst t; exact q (S.sep y x d₁ d b ey e K H)
        exact ⟨b, rfl, b1, ne b2 hba, b3, Ob.at le fun _ e => e⟩
    · intro y y' d₁ d₂ b e1 e2 H1 H2
      rcases vv y d₁ true e1 with ⟨_, _, q⟩ | ⟨_, f1⟩
      · cases q
      · rcases vv y' d₂ true e2 with ⟨_, _, q⟩ | ⟨_, f2⟩
        · cases q
        · exact S.sep y y' d₁ d₂ b f1 f2 H1 H2
  · refine ⟨z, Tr.refl _ _, ?_⟩
    rw [same fun d e => hx ⟨d, e⟩]; exact S

theorem St.freeze (S : St prog w base xb outer env sc old z Γ h) : ∀ xs : List Str, ∃ z', Tr old z z' ∧ St prog w base xb outer env sc old z' (Γ.freeze xs) h
  | [] => ⟨z, Tr.refl _ _, by
      have : Γ.freeze [] = Γ := by funext y; simp [Vars.freeze]
      rw [this]; exact S⟩
  | x :: xs => by
    obtain ⟨z₁, t₁, S₁⟩ := S.freeze xs
    obtain ⟨z₂, t₂, S₂⟩ := S₁.freeze1 x
    refine ⟨z₂, t₁.trans t₂, ?_⟩
    have : Γ.freeze (x :: xs) = fun y => if y = x then ((Γ.freeze xs) y).map (fun p => (p.1, false)) else (Γ.freeze xs) y := by
      funext y
      unfold Vars.freeze
      by_cases q : y = x
      · subst q
        simp only [List.mem_cons, true_or, if_true]
        split
        · cases Γ y <;> rfl
        · rfl
      · simp [q]
    rw [this]; exact S₂
end

/-- an exception in this frame: just made, noted here, or come from a callee -/
noncomputable def KUp (old : Kept) (h' : Heap) : Prop := ∀ b o, old b = some o → (∀ vs, o.data ≠ .fields vs) → ∃ sl, h'.get? b = some { o with slots := sl }
theorem KUp.of {old : Kept} {h h' : Heap} (on : old.on h) (x : h.UpToSlots h') : KUp old h' := fun b o e n => x b o (on b o e) n
theorem KUp.next {old : Kept} {h h' : Heap} (k : KUp old h) (x : h.UpToSlots h') : KUp old h' := fun b o e n => by
  obtain ⟨sl, hs⟩ := k b o e n
  obtain ⟨sl', hs'⟩ := x b _ hs n
  exact ⟨sl', hs'⟩
noncomputable def MadeF (xb : Heap) (fr : List Env) (e : Addr) (cls : Value) (h : Heap) : Prop :=
  xb.StaysIn h ∧ xb.get? e = none ∧ h.FunFrames xb fr ∧ ∃ oe vs a0, h.get? e = some oe ∧ oe.cls = cls ∧ oe.data = .fields vs ∧ vs[1]? = some .none ∧ vs[0]? = some a0
noncomputable def XF (BC : Addr) (xb : Heap) (fr : List Env) (L : Addr) (old : Kept) (h' : Heap) (e : Addr) : Prop :=
  ((∃ a0, Heap.FlyingW xb fr e (.ref BC) a0 h') ∨ (∃ a0, Heap.HeldW xb fr e (.ref BC) a0 L h') ∨ MadeF xb fr e (.ref BC) h') ∧ KUp old h'
theorem XF.less {BC : Addr} {xb : Heap} {fr : List Env} {L : Addr} {old old' : Kept} {h' : Heap} {e : Addr} (k : old.le old') (x : XF BC xb fr L old' h' e) : XF BC xb fr L old h' e :=
  ⟨x.1, fun b o q n => x.2 b o (k b o q) n⟩
theorem XP.xf {BC : Addr} {xb : Heap} {fr : List Env} {L : Addr} {old : Kept} {h h' : Heap} {e : Addr} (on : old.on h) (x : XP BC xb fr h h' e) : XF BC xb fr L old h' e :=
  ⟨.inl x.1, KUp.of on x.2⟩

section
variable {M : Model} {A : Around} {E : Value → Shared → Prop} {s : Shared} {env : Env} {outer : List Env} {xb : Heap} {BC e : Addr} {old : Kept}

theorem note_rule {Q : Unit → Shared → Prop} (hfr : A.frames = some (env :: outer)) (hf : env.frame = some env.locals) (x : XF BC xb (env :: outer) env.locals old s.heap e)
    (h : ∀ h' a0, Heap.HeldW xb (env :: outer) e (.ref BC) a0 env.locals h' → KUp old h' → Q () { s with heap := h' }) : wpAny M A (noteFrame (.ref e) env) Q E s := by
  obtain ⟨x, k⟩ := x
  rcases x with ⟨a0, x⟩ | ⟨a0, x⟩ | ⟨x1, x2, x3, oe, vs, a0, he, hc, hd, h1, h0⟩
  · exact wpAny_looks_onW hfr hf x fun h' hh hu => h h' a0 hh (k.next hu)
  · exact wpAny_noteFrame_againW hf x.2.2.2 (h s.heap a0 x k)
  · unfold noteFrame
    simp only [hf]
    refine wpAny_bind (wpAny_field he hd h1 ?_)
    rw [if_neg (by decide)]
    refine wpAny_entryW hfr x3 hf he x1 x2 hd (Array.getElem?_eq_some_iff.mp h1).1 h0 fun h' hN => ?_
    obtain ⟨k1, k2, k3, k4⟩ := hN
    rw [hc] at k3
    exact h h' a0 ⟨k1, x2, k2, k3⟩ (k.next k4)

theorem flight_rule {Q : Unit → Shared → Prop} {a0 : Value} {l : List Env} {L : Addr} (x : Heap.HeldW xb l e (.ref BC) a0 L s.heap)
    (h : ∀ h', Heap.HeldW xb l e (.ref BC) a0 L h' → s.heap.UpToSlots h' → Q () { s with heap := h' }) : wpAny M A (setFlight (.ref e) (some L)) Q E s := by
  obtain ⟨hkb, x2, hl, ht⟩ := x
  obtain ⟨oe, vs, T, oT, ts, he, hcls, hd, h1, hnT, hTe, hT, hdT, h3⟩ := ht
  have hsz3 : 3 < ts.size := (Array.getElem?_eq_some_iff.mp h3).1
  have other : ∀ b, b ≠ T → (s.heap.update T (Obj.mapFields (·.setIfInBounds 3 ((some L : Option Addr).elim Value.none fun f => rawInt f)))).get? b = s.heap.get? b :=
    fun b hb => Heap.get?_update_other _ _ (Ne.symm hb)
  have noRecord : ∀ b o, s.heap.get? b = some o → (∀ vs, o.data ≠ .fields vs) → b ≠ T := fun b o hb hnf q => by
    rw [q, hT] at hb; injection hb with hb; subst hb; exact hnf ts hdT
  unfold setFlight
  refine wpAny_bind (wpAny_field he hd h1 ?_)
  rw [if_pos (show (Value.ref T != Value.none) = true from by simp)]
  refine wpAny_setField hT hdT hsz3 (h _ ⟨fun b o hbo => (other b fun q => by rw [q, hnT] at hbo; cases hbo).trans (hkb b o hbo), x2,
    hl.of_keeps fun b o hb hnf => ⟨o, (other b (noRecord b o hb hnf)).trans hb, rfl⟩, ?_⟩ fun b o hb hnf => ⟨o.slots, (other b (noRecord b o hb hnf)).trans hb⟩)
  exact ⟨oe, vs, T, _, _, (other e (Ne.symm hTe)).trans he, hcls, hd, h1, hnT, hTe, Heap.get?_update_self _ hT (Obj.isFreed_of_fields (Obj.data_mapFields hdT _)), Obj.data_mapFields hdT _, by simp [hsz3]⟩

theorem came_rule (hf : env.frame = some env.locals) {a0 : Value} (x : Heap.HeldW xb (env :: outer) e (.ref BC) a0 env.locals s.heap) (k : KUp old s.heap)
    (h : ∀ h', XF BC xb (env :: outer) env.locals old h' e → E (.ref e) { s with heap := h' }) : cameBackBy M A env E (.ref e) s := by
  obtain ⟨oe, vs, T, oT, ts, he, hcls, hd, h1, hr⟩ := x.2.2.2
  unfold cameBackBy
  refine wpAny_bind (wpAny_field he hd h1 ?_)
  rw [if_neg (show ¬ ((Value.ref T == Value.none) = true) from by simp), hf]
  exact flight_rule x fun h' x' u => h h' ⟨.inr (.inl ⟨a0, x'⟩), k.next u⟩

theorem leave_rule {Q : Unit → Shared → Prop} (hfr : A.frames = some (env :: outer)) (hf : env.frame = some env.locals) (x : XF BC xb (env :: outer) env.locals old s.heap e)
    (h : ∀ h' a0, Heap.FlyingW xb outer e (.ref BC) a0 h' → KUp old h' → Q () { s with heap := h' }) : wpAny M A (leaving env (.ref e)) Q E s := by
  unfold leaving
  refine wpAny_bind (note_rule hfr hf x fun h1 a0 hh k => ?_)
  refine wpAny_landsW hh fun h2 hfl u => h h2 a0 ?_ (k.next u)
  obtain ⟨k1, k2, ⟨_, _, k3⟩, k4⟩ := hfl
  exact ⟨k1, k2, k3, k4⟩
end
end
section
section
variable {prog : Program} {w : World} {base xb : Heap} {outer : List Env} {env : Env} {sc : Scope} {old z z' : Kept} {Γ : Vars} {h h' : Heap}

/-- one thing that nobody names (an iterator, a comprehension's namespace) moves -/
theorem St.reold {I : Addr} {old₁ new : Kept} (S : St prog w base xb outer env sc old₁ z Γ h) (hb : ∀ a o, base.get? a = some o → old a = some o) (hxb : ∀ a o, xb.get? a = some o → old a = some o) (fr : KFrames old xb outer)
    (e₁ : ∀ a, a ≠ I → old₁ a = old a) (e₂ : ∀ a, a ≠ I → new a = old a) (oI : old I = none) (zI : z I = none) (nI : ∀ o, new I = some o → h'.get? I = some o)
    (hI : h.get? I = none ∨ ∃ o, old₁ I = some o ∧ ∀ v, o.data ≠ .cell v) (k : ∀ b o, b ≠ I → h.get? b = some o → h'.get? b = some o) : St prog w base xb outer env sc new z Γ h' := by
  have le : old.le new := fun a o e => by
    have : a ≠ I := fun q => by rw [q, oI] at e; cases e
    rw [e₂ a this]; exact e
  have ne : ∀ {p : Addr} {o : Obj}, h.get? p = some o → old₁ p = none → p ≠ I := fun {p o} e q r => by
    subst r
    rcases hI with hI | ⟨o', hI, _⟩
    · rw [hI] at e; cases e
    · rw [hI] at q; cases q
  have nw : ∀ {p : Addr}, p ≠ I → old₁ p = none → new p = none := fun n q => (e₂ _ n).trans ((e₁ _ n).symm.trans q)
  have nc : ∀ {c : Addr} {v : Option Value}, h.IsCell c v → c ≠ I := fun {c v} hc q => by
    subst q
    obtain ⟨o, ho, hd⟩ := hc
    rcases hI with hI | ⟨o', hI, hn⟩
    · rw [hI] at ho; cases ho
    · have := S.keep _ _ hI
      rw [ho] at this; cases this
      exact hn _ hd
  have nL : env.locals ≠ I := by
    obtain ⟨m, o, _, _, ho, _⟩ := S.ns
    exact ne ho S.Lold.1
  have hns : ∀ {m}, h.Ns env.locals m → h'.Ns env.locals m := fun hm => hm.at' fun o e => k _ o nL e
  have hcell : ∀ {c v}, h.IsCell c v → h'.IsCell c v := fun {c v} hv => by
    have n := nc hv
    obtain ⟨o, ho, hd⟩ := hv
    exact ⟨o, k _ _ n ho, hd⟩
  have hH : ∀ {y v}, Holds env h y v → Holds env h' y v := fun {y v} H => by
    rcases H with ⟨k, m, hm, hv⟩ | ⟨k0, k, c, hc, hv⟩
    · exact .inl ⟨k, m, hns hm, hv⟩
    · exact .inr ⟨k0, k, c, hc, hcell hv⟩
  refine { S with pl := ?_, hb := fun a o e => le _ _ (hb a o e), hxb := fun a o e => le _ _ (hxb a o e), keep := ?_, on := ?_, ns := ?_, Lold := ⟨nw nL S.Lold.1, S.Lold.2⟩, fr := fr.mono le, vals := ?_, sep := ?_ }
  · intro x hx
    obtain ⟨p, P, q1, q2⟩ := S.pl x hx
    obtain ⟨o, ho⟩ := P.get
    exact ⟨p, P.keeps fun o e => k _ _ (ne ho q1) e, nw (ne ho q1) q1, q2⟩
  · intro a o e
    by_cases q : a = I
    · subst q; exact nI o e
    · exact k _ _ q (S.keep a o (by rw [e₁ a q, ← e₂ a q]; exact e))
  · intro a o e
    exact k _ _ (fun q => by rw [q, zI] at e; cases e) (S.on a o e)
  · obtain ⟨m, hm⟩ := S.ns; exact ⟨m, hns hm⟩
  · intro x d own e
    obtain ⟨hd, v, H, r, o⟩ := S.vals x d own e
    refine ⟨hd, v, hH H, r, fun t => ?_⟩
    obtain ⟨a, e1, a1, a2, a3, O⟩ := o t
    obtain ⟨ob, hob⟩ := O.get
    exact ⟨a, e1, nw (ne hob a1) a1, a2, a3, O.at z.le_refl fun o e => k _ _ (ne hob a1) e⟩
  · intro x y d d' a e1 e2 H1 H2
    have back : ∀ {y : Str} {d : PyData} {v : Value}, Γ y = some (d, true) → Holds env h' y v → Holds env h y v := fun {y d v} e H => by
      obtain ⟨_, v', K, _, _⟩ := S.vals y d true e
      have := (hH K).fun H; subst this; exact K
    exact S.sep x y d d' a e1 e2 (back e1 H1) (back e2 H2)

noncomputable def FineO (prog : Program) (w : World) (BC : Addr) (base xb : Heap) (outer : List Env) (env : Env) (sc : Scope) (old z : Kept) (s : Shared) (Q : Flow → Shared → Prop) (E : Value → Shared → Prop) : Out → Prop
  | .nxt Γ' => ∀ z' h' tk, Tr old z z' → St prog w base xb outer env sc old z' Γ' h' → Q .next { s with heap := h', toks := tk }
  | .ret d => ∀ v z' h' tk, Tr old z z' → old.on h' → z'.on h' → Rep prog w z' v d → Q (.ret v) { s with heap := h', toks := tk }
  | .exc => ∀ e h' tk, XF BC xb (env :: outer) env.locals old h' e → E (.ref e) { s with heap := h', toks := tk }
  | .bad => False

theorem FineO.shift {BC : Addr} {s : Shared} {h₁ : Heap} {t₁ : Tok} {z₁ : Kept} {Q : Flow → Shared → Prop} {E : Value → Shared → Prop} {r : Out} (X : Tr old z z₁) (F : FineO prog w BC base xb outer env sc old z s Q E r) :
    FineO prog w BC base xb outer env sc old z₁ { s with heap := h₁, toks := t₁ } Q E r := by
  cases r with
  | nxt Γ' => exact fun z' h' tk Y p => F z' h' tk (X.trans Y) p
  | ret d => exact fun v z' h' tk Y p => F v z' h' tk (X.trans Y) p
  | exc => exact fun e h' tk x => F e h' tk x
  | bad => exact F

/-- an expression at the head of a statement -/
theorem fineO_of {α β : Type} {M : Model} {A : Around} {BC : Addr} {s : Shared} {P₁ : Kept → Heap → β → α → Prop} {t : Sem β} {r : Res α} {f : α → Out} {Q : Flow → Shared → Prop} {R : β → Shared → Prop} {E : Value → Shared → Prop}
    (S : St prog w base xb outer env sc old z Γ s.heap)
    (h : ∀ R, FineG BC xb (env :: outer) z s P₁ R E r → wpAny M A t R E s) (hf : FineO prog w BC base xb outer env sc old z s Q E (Out.of r f))
    (k : ∀ v d z₁ h₁ t₁, r = .ok d → Ext z z₁ s.heap h₁ → P₁ z₁ h₁ v d → St prog w base xb outer env sc old z₁ Γ h₁ → FineO prog w BC base xb outer env sc old z₁ { s with heap := h₁, toks := t₁ } Q E (f d) → R v { s with heap := h₁, toks := t₁ }) :
    wpAny M A t R E s := by
  refine h R ?_
  cases r with
  | ok d => exact fun v z₁ h₁ t₁ X p => k v d z₁ h₁ t₁ rfl X p (S.ext X) (FineO.shift (X.tr S.keep) hf)
  | exc => exact fun e h' tk x => hf e h' tk (x.xf S.keep)
  | bad => exact hf.elim

theorem fineO_ok {BC : Addr} {s : Shared} {Q : Flow → Shared → Prop} {E : Value → Shared → Prop} {Γ' : Vars} (tk : Tok) (S : St prog w base xb outer env sc old z Γ' h) (F : FineO prog w BC base xb outer env sc old z s Q E (.nxt Γ')) : Q .next { s with heap := h, toks := tk } :=
  F z h tk (Tr.refl _ _) S
end
end
section
set_option linter.unusedVariables false
section
variable {prog : Program} {w : World} {BC : Addr} {T : Tab} {dep : Nat} {base xb : Heap} {mg mb : Str → Option Value} {A : Around} {outer : List Env} {env : Env}
variable {n : Nat} {sc : Scope} {Γ : Vars} {old z : Kept} {s : Shared} {Q : Flow → Shared → Prop} {E : Value → Shared → Prop}

theorem interactive_of (h : env.scope.kind = .function) : interactive env = false := by unfold interactive; rw [h]; rfl

/-- the open thing of a name -/
theorem St.owned {x : Str} {d : PyData} {h : Heap} (S : St prog w base xb outer env sc old z Γ h) (e : Γ x = some (d, true)) : (x == ("__debug__" : Str)) = false ∧ ∃ a, Holds env h x (.ref a) ∧ Own prog w z h a d := by
  obtain ⟨hd, v, H, _, o⟩ := S.vals x d true e
  obtain ⟨a, rfl, _, _, _, O⟩ := o rfl
  exact ⟨hd, a, H, O⟩
theorem Own.isList {h : Heap} {a : Addr} {ds : List PyData} (O : Own prog w z h a (.list ds)) : ∃ vs n, h.get? a = some (lstO vs n) ∧ vs.length ≤ sizeLine ∧ Reps prog w z vs ds := by
  cases O with | list h1 h2 h3 => exact ⟨_, _, h1, h2, h3⟩
theorem Own.isDict {h : Heap} {a : Addr} {ds : List (PyData × PyData)} (O : Own prog w z h a (.dict ds)) : ∃ o kvs, h.get? a = some o ∧ o.IsDictOf (intKind prog w) kvs ∧ RepKV prog w z kvs ds := by
  cases O with | dict h1 h2 h3 => exact ⟨_, _, h1, h2, h3⟩

theorem ex_append (IH : Snd prog w BC T base xb A (env :: outer) n) (S : St prog w base xb outer env sc old z Γ s.heap) {x m : Str} {xp apos cpos pos : Pos} {e : Expr} {ds : List PyData} (hx : Γ x = some (.list ds, true))
    (hm : m = "append" ∧ apos.endLine = cpos.line ∧ notStar e = true ∧ isComp e = false ∧ ds.length ≤ szMax)
    (F : FineO prog w BC base xb outer env sc old z s Q E (Out.of (ev T n sc Γ e) fun d => .nxt (Γ.set x (.list (ds ++ [d])) true))) :
    wpAny (model prog w) A (exec (.Expr (.Call (.Attribute (.Name x xp) m apos) [e] [] cpos) pos) env) Q E s := by
  obtain ⟨rfl, hl, hns, _, hlen⟩ := hm
  obtain ⟨hd, a, H, O⟩ := S.owned hx
  obtain ⟨vs, k, h1, h2, h3⟩ := O.isList
  refine wpAny_Expr (wpAny_Call_method1_late rfl (by rw [hl]; simp) (back_one (notStar_ne hns)) (name_rule H S.kind hd ?_)) (interactive_of S.kind) rfl
  refine ⟨"list", "list.append", PySem.F.plainAttrs_list, PySem.F.slot_list_append, PySem.F.type_list_append, ⟨_, h1, rfl⟩, fun b e => (by cases e; exact ⟨_, h1, rfl⟩), P.append_list ?_⟩
  refine fineO_of S (IH.ev _ _ _ _ _ _ · _ S.now) F fun v d z₁ h₁ t₁ _ X p S₁ F' => ?_
  have hL : IsL h₁ a vs.toArray k := X.keep _ _ h1
  have hll := h3.length
  refine ⟨vs.toArray, k, by simpa using h2, hL, ?_⟩
  refine F' z₁ _ t₁ (Tr.refl _ _) (S₁.mutate hx (H.keeps X.keep) (Heap.SameBut.update ..) (Own.list (vs := vs ++ [v]) (n := k + 1) ?_ ?_ ((h3.mono X.le).append (.cons p .nil))))
  · have := hL.update (fun xs => xs.push v)
    refine this.trans ?_
    unfold lstO; simp
  · rw [List.length_append, sizeLine_eq]; unfold szMax at hlen; simp; omega

theorem ex_drop (IH : Snd prog w BC T base xb A (env :: outer) n) (S : St prog w base xb outer env sc old z Γ s.heap) {e : Expr} {pos : Pos} (hc : isComp e = false)
    (F : FineO prog w BC base xb outer env sc old z s Q E (Out.of (ev T n sc Γ e) fun d => if loose d then .nxt Γ else .bad)) : wpAny (model prog w) A (exec (.Expr e pos) env) Q E s := by
  refine wpAny_Expr (fineO_of S (IH.ev _ _ _ _ _ _ · _ S.now) F fun v d z₁ h₁ t₁ _ X p S₁ F' => ?_) (interactive_of S.kind) ?_
  · cases hl : loose d with
    | false => rw [hl] at F'; exact F'.elim
    | true =>
      rw [hl] at F'
      have := F' z₁ h₁ t₁ (Tr.refl _ _) S₁
      cases p <;> first | exact this | cases hl
  · cases e <;> first | rfl | cases hc

theorem ex_ret (IH : Snd prog w BC T base xb A (env :: outer) n) (S : St prog w base xb outer env sc old z Γ s.heap) {e : Expr} {pos : Pos}
    (F : FineO prog w BC base xb outer env sc old z s Q E (Out.of (ev T n sc Γ e) fun d => .ret d)) : wpAny (model prog w) A (exec (.Return (some e) pos) env) Q E s :=
  wpAny_Return_some (fineO_of S (IH.ev _ _ _ _ _ _ · _ S.now) F fun v d z₁ h₁ t₁ _ X p S₁ F' => F' v z₁ h₁ t₁ (Tr.refl _ _) S₁.keep S₁.on p)
theorem ex_ret0 (S : St prog w base xb outer env sc old z Γ s.heap) {pos : Pos} (F : FineO prog w BC base xb outer env sc old z s Q E (.ret .none)) : wpAny (model prog w) A (exec (.Return none pos) env) Q E s :=
  wpAny_Return_none (F .none z s.heap s.toks (Tr.refl _ _) S.keep S.on .none)

theorem ex_name (IH : Snd prog w BC T base xb A (env :: outer) n) (S : St prog w base xb outer env sc old z Γ s.heap) {x : Str} {xp pos : Pos} {e : Expr} (hx : storable sc x = true) (hs : swapsWith e (some (.Name x xp)) pos.line env = pure false)
    (F : FineO prog w BC base xb outer env sc old z s Q E (Out.of (ev T n sc Γ e) fun d => .nxt (Γ.set x d false))) : wpAny (model prog w) A (exec (.Assign [.Name x xp] e pos) env) Q E s :=
  wpAny_Assign_Name (fineO_of S (IH.ev _ _ _ _ _ _ · _ S.now) F fun v d z₁ h₁ t₁ _ X p S₁ F' =>
    S₁.store (s := { s with heap := h₁, toks := t₁ }) hx p fun h' tk S₂ => F' z₁ h' tk (Tr.refl _ _) S₂) hs

theorem fresh_own {a : Addr} {h : Heap} (S : St prog w base xb outer env sc old z Γ h) (e : h.get? a = none) : old a = none ∧ z a = none ∧ a ≠ env.locals ∧ (∀ y d', Γ y = some (d', true) → ¬ Holds env h y (.ref a)) := by
  refine ⟨none_of_on S.keep e, none_of_on S.on e, fun q => ?_, fun y d' hy H => ?_⟩
  · obtain ⟨m, o, _, _, ho, _⟩ := S.ns
    rw [← q, e] at ho; cases ho
  · obtain ⟨_, b, H', O⟩ := S.owned hy
    have := H'.fun H; cases this
    obtain ⟨o, ho⟩ := O.get
    rw [e] at ho; cases ho

theorem ex_new {a : Addr} {x : Str} {d : PyData} {h₁ : Heap} (S : St prog w base xb outer env sc old z Γ s.heap) (hx : storable sc x = true) (ha : s.heap.get? a = none) (X : ∀ b o, s.heap.get? b = some o → h₁.get? b = some o) (O : Own prog w z h₁ a d)
    (F : FineO prog w BC base xb outer env sc old z s Q E (.nxt (Γ.set x d true))) : wpAny (model prog w) A (storeName env x (.ref a)) (fun _ => Q .next) E { s with heap := h₁ } := by
  obtain ⟨a1, a2, a3, a4⟩ := fresh_own S ha
  refine (S.ext (Ext.heap S.on X)).storeOwn (s := { s with heap := h₁ }) hx a1 a2 a3 O (fun y d' _ hy H => ?_) fun h' tk S₂ => F z h' tk (Tr.refl _ _) S₂
  obtain ⟨_, b, H', _⟩ := S.owned hy
  have := (H'.keeps X).fun H; cases this
  exact a4 y d' hy H'

theorem ex_nil (S : St prog w base xb outer env sc old z Γ s.heap) {x : Str} {xp ep pos : Pos} (hx : storable sc x = true)
    (F : FineO prog w BC base xb outer env sc old z s Q E (.nxt (Γ.set x (.list []) true))) : wpAny (model prog w) A (exec (.Assign [.Name x xp] (.List [] ep) pos) env) Q E s :=
  wpAny_Assign_Name (wpAny_List (spliced_nil ⟨Nat.zero_le _, ex_new S hx (get_size_none _) (fun b o e => Heap.get?_push_of_some _ e)
    (.list (vs := []) (n := 0) (Heap.get?_push_size _ rfl) (Nat.zero_le _) .nil) F⟩)) rfl

theorem ex_emp (S : St prog w base xb outer env sc old z Γ s.heap) {x : Str} {xp ep pos : Pos} (hx : storable sc x = true)
    (F : FineO prog w BC base xb outer env sc old z s Q E (.nxt (Γ.set x (.dict []) true))) : wpAny (model prog w) A (exec (.Assign [.Name x xp] (.Dict [] [] ep) pos) env) Q E s := by
  refine wpAny_Assign_Name (wpAny_Dict_empty ?_) rfl
  obtain ⟨o, ho, hd⟩ := Heap.dictOf_iff.mp (Heap.DictOf.new (knd := intKind prog w) s.heap)
  exact ex_new S hx (get_size_none _) (fun b o e => Heap.get?_push_of_some _ e) (.dict ho hd .nil) F
end
end
section
set_option linter.unusedVariables false
section
variable {prog : Program} {w : World} {BC : Addr} {T : Tab} {dep : Nat} {base xb : Heap} {mg mb : Str → Option Value} {A : Around} {outer : List Env} {env : Env}
variable {n : Nat} {sc : Scope} {Γ : Vars} {old z : Kept} {s : Shared} {Q : Flow → Shared → Prop} {E : Value → Shared → Prop}

theorem Kept.put_ne {z : Kept} {a b : Addr} {o : Obj} (h : b ≠ a) : (z.put a o) b = z b := by unfold Kept.put; rw [if_neg h]

theorem ex_comp (IH : Snd prog w BC T base xb A (env :: outer) n) (hR : Room A (env :: outer) dep) (S : St prog w base xb outer env sc old z Γ s.heap) {x : Str} {xp cp pos : Pos} {elt : Expr} {gens : List Comprehension} {csc : Scope} (hx : storable sc x = true)
    (hxl : sc.names.lookup x = some .local) (hl : xp.line = cp.line) (hn : (csc.names.any fun (n, k) => n == x && (k == .local || k == .cell)) = false)
    (F : FineO prog w BC base xb outer env sc old z s Q E (Out.of (evComp T (n + 1) sc Γ elt gens csc) fun ds => .nxt (Γ.set x (.list ds) true))) :
    wpAny (model prog w) A (exec (.Assign [.Name x xp] (.ListComp elt gens csc cp) pos) env) Q E s := by
  have hs : swapsWith (.ListComp elt gens csc cp) (some (.Name x xp)) pos.line env = pure true := by
    show pure (env.blockKind == .function && env.kindOf x == some .local && xp.line == cp.line && !(csc.names.any fun (n, k) => n == x && (k == .local || k == .cell))) = _
    have hb : env.blockKind = .function := by unfold Env.blockKind; rw [S.kind]; rfl
    rw [hn, hl, S.isL x hxl, hb]
    simp
  rw [exec_Assign_Name_used _ _ _ _ hs]
  refine wpAny_bind (wpAny_standAt (wpAny_bind ?_))
  show wpAny _ _ (comprehension (.ListComp elt gens csc cp) csc env (firstIterPos gens cp) (newList []) (firstAsync gens) (firstIter gens env) (some (assign (.Name x xp) env)) >>= fun _ => pure ()) _ _ _
  have hb : evComp T (n + 1) sc Γ elt gens csc ≠ .bad := fun q => by rw [q] at F; exact F.elim
  have key := comp_eval (A := A) (BC := BC) (prog := prog) (w := w) (T := T) (base := base) (xb := xb) (s := s) (E := E) (z := z) (env := env) (fr := env :: outer) (Γ := Γ) (sc := sc) (n := n) (elt := elt) (gens := gens) (csc := csc) (pos := cp) (use := some (assign (.Name x xp) env)) (Q := fun _ s' => Q .next s') IH hR S.now hb
    (fun e h' tk q XX => by rw [q] at F; exact F e h' tk (XX.xf S.keep)) (fun es D ys k z' h' tk L m q X zD zL hD hL hDL gD R hlen hns => ?_)
  · rw [key.1]
    refine wpAny_bind (wpAny_mono key.2 (fun v s' q => wpAny_pure (wpAny_pure q)) fun _ _ q => q)
  · rw [q] at F
    have S₁ := S.ext X
    obtain ⟨oL, es', ep, hoL, hdL, hrest⟩ := id hns
    have oldL : old L = none := none_of_on S.keep hL
    have S₂ : St prog w base xb outer env sc (old.put L oL) z' Γ h' := by
      have S0 : St prog w base xb outer env sc (old.put L oL) z' Γ h' := by
        have SS : St prog w base xb outer env sc old z' Γ h' := S₁
        refine { SS with pl := ?_, hb := fun a o e => Kept.put_le oldL _ _ (S.hb a o e), hxb := fun a o e => Kept.put_le oldL _ _ (S.hxb a o e), keep := ?_, Lold := ?_, fr := S.fr.mono (Kept.put_le oldL), vals := ?_ }
        · intro y hy
          obtain ⟨p, P, q1, q2⟩ := S.pl y hy
          obtain ⟨o, ho⟩ := P.get
          have nL : p ≠ L := fun q => by rw [q, hL] at ho; cases ho
          exact ⟨p, P.keeps fun o e => X.keep _ _ e, (Kept.put_ne nL).trans q1, (X.old _ _ ho).trans q2⟩
        · intro a o e
          unfold Kept.put at e
          split at e
          · rename_i q; subst q; cases e; exact hoL
          · exact SS.keep a o e
        · obtain ⟨m, o, _, _, ho, _⟩ := S.ns
          have nL : env.locals ≠ L := fun q => by rw [q, hL] at ho; cases ho
          exact ⟨(Kept.put_ne nL).trans S.Lold.1, SS.Lold.2⟩
        · intro y d own ey
          obtain ⟨hd, v, H, r, o⟩ := SS.vals y d own ey
          refine ⟨hd, v, H, r, fun t => ?_⟩
          obtain ⟨a, rfl, a1, a2, a3, O⟩ := o t
          subst t
          refine ⟨a, rfl, (Kept.put_ne fun q => ?_).trans a1, a2, a3, O⟩
          obtain ⟨_, b, H', O'⟩ := S.owned ey
          have := (H'.keeps X.keep).fun H; cases this
          obtain ⟨o, ho⟩ := O'.get
          rw [q, hL] at ho; cases ho
      exact S0
    show wpAny _ _ (assign (.Name x xp) env (.ref D)) _ _ _
    obtain ⟨a1, a2, a3, a4⟩ := fresh_own S hD
    refine wpAny_assign_Name (S₂.storeOwn (s := { s with heap := h', toks := tk }) hx ((Kept.put_ne hDL).trans a1) zD a3 (.list gD hlen R) (fun y d' _ hy H => ?_) fun h'' tk' S₃ => ?_)
    · obtain ⟨_, b, H', _⟩ := S.owned hy
      have := (H'.keeps X.keep).fun H; cases this
      exact a4 y d' hy H'
    · have hL'' := S₃.keep _ _ (Kept.put_self old L oL)
      refine ⟨m, ⟨oL, es', ep, hL'', hdL, hrest⟩, fun h3 hs3 => ?_⟩
      refine F z' h3 tk' (X.tr S.keep) (S₃.reold (old := old) (new := old) (I := L) S.hb S.hxb S.fr (fun a n => Kept.put_ne n) (fun _ _ => rfl) oldL zL (fun o e => by rw [oldL] at e; cases e)
        (.inr ⟨oL, Kept.put_self _ _ _, fun v e => by rw [hdL] at e; cases e⟩) fun b o hb e => SameBut.get hs3 e hb)
end
end
section
set_option linter.unusedVariables false
section
variable {prog : Program} {w : World} {BC : Addr} {T : Tab} {dep : Nat} {base xb : Heap} {mg mb : Str → Option Value} {A : Around} {outer : List Env} {env : Env}
variable {n : Nat} {sc : Scope} {Γ : Vars} {old z : Kept} {s : Shared} {Q : Flow → Shared → Prop} {E : Value → Shared → Prop}

theorem storable_ne {x : Str} (h : storable sc x = true) : (x == ("__debug__" : Str)) = false := by
  simp only [storable, Bool.and_eq_true, Bool.not_eq_true'] at h; exact h.1.2

theorem ex_unpack (IH : Snd prog w BC T base xb A (env :: outer) n) (hh : A.handled = none) (S : St prog w base xb outer env sc old z Γ s.heap) {x y : Str} {xp yp tp pos : Pos} {k : Nat} {e : Expr} (hx : storable sc x = true) (hy : storable sc y = true)
    (hc : isComp e = false) (hxy : (x == y) = false) (ht : ∀ a b c, e ≠ .Tuple a b c)
    (F : FineO prog w BC base xb outer env sc old z s Q E (Out.of (ev T n sc Γ e) fun d => (match d with
            | .tuple [a, b] => .nxt ((Γ.set x a false).set y b false)
            | _ => .bad))) : wpAny (model prog w) A (exec (.Assign [.Tuple [.Name x xp, .Name y yp] k tp] e pos) env) Q E s := by
  refine wpAny_Assign_stores (fineO_of S (IH.ev _ _ _ _ _ _ · _ S.now) F fun v d z₁ h₁ t₁ _ X p S₁ F' => ?_) ?_ ?_
  · split at F'
    · rename_i a b
      cases p with
      | @tuple ad vs m _ h1 h2 h3 =>
        cases h3 with
        | @cons va _ _ _ ra h3 =>
          cases h3 with
          | @cons vb _ _ _ rb h3 =>
            cases h3
            show wpAny _ _ (assign (.Tuple [.Name x xp, .Name y yp] k tp) env (.ref ad)) _ _ _
            refine wpAny_assign_Tuple (items := [va, vb].toArray) hh ⟨_, S₁.on _ _ h1, rfl, m, rfl⟩ rfl rfl fun h2 hE => ?_
            have X2 : Ext z₁ z₁ h₁ h2 := Ext.heap S₁.on fun b o e => hE b o (Nat.ne_of_lt (Heap.lt_size e)) e
            refine wpAny_assignInOrder_more (wpAny_assign_Name ((S₁.ext X2).store (s := { s with heap := h2, toks := t₁ }) hx ra fun h3 t3 S3 => ?_))
            refine wpAny_assignInOrder_more (wpAny_assign_Name (S3.store (s := { s with heap := h3, toks := t3 }) hy rb fun h4 t4 S4 => ?_))
            exact wpAny_assignInOrder_none (F' z₁ h4 t4 (Tr.refl _ _) S4)
    · exact F'.elim
  · cases e <;> first | rfl | cases hc
  · cases e <;> first | rfl | exact absurd rfl (ht _ _ _)

theorem ex_aug (IH : Snd prog w BC T base xb A (env :: outer) n) (S : St prog w base xb outer env sc old z Γ s.heap) {x : Str} {xp pos : Pos} {e : Expr} {i : Int} {own : Bool} (hx : storable sc x = true) (hi : Γ x = some (.int i, own))
    (F : FineO prog w BC base xb outer env sc old z s Q E (Out.of (ev T n sc Γ e) fun d => (match d with
        | .int j => .nxt (Γ.set x (.int (i + j)) false)
        | _ => .bad))) : wpAny (model prog w) A (exec (.AugAssign (.Name x xp) .Add e pos) env) Q E s := by
  obtain ⟨hd, v, H, r, o⟩ := S.vals x _ own hi
  have r : Rep prog w z v (.int i) := by
    cases own with
    | false => exact r rfl
    | true => obtain ⟨a, _, _, _, _, O⟩ := o rfl; cases O
  cases r with
  | int _ t =>
    refine wpAny_AugAssign_Name (load_rule H S.kind (fineO_of S (IH.ev _ _ _ _ _ _ · _ S.now) F fun v d z₁ h₁ t₁ _ X p S₁ F' => ?_))
    split at F'
    · rename_i j
      cases p with
      | int _ u =>
        exact P.iadd_int (s := { s with heap := h₁, toks := t₁ }) (S₁.store (s := { s with heap := h₁, toks := t₁ + 1 }) hx (.int _ _) fun h' tk S₂ => F' z₁ h' tk (Tr.refl _ _) S₂)
    · exact F'.elim

theorem RepKV.stored {kvs : List (Int × Value)} {ds : List (PyData × PyData)} {k : Int} {v : Value} {d : PyData} (r : RepKV prog w z kvs ds) (rv : Rep prog w z v d) : RepKV prog w z (stored kvs k v) (storeKV k d ds) := by
  have ha : kvs.any (fun kv => decide (kv.1 = k)) = ds.any (fun e => keyIs k e.1) := by
    clear rv
    induction kvs generalizing ds with
    | nil => cases r; rfl
    | cons kv kvs ih => cases r with | cons r1 r2 => simp only [List.any_cons, keyIs, ih r2]
  unfold PySem.stored storeKV
  rw [ha]
  split
  · clear ha
    induction kvs generalizing ds with
    | nil => cases r; exact .nil
    | cons kv kvs ih =>
      cases r with
      | @cons i v' d' _ ds r1 r2 =>
        rename_i hany
        have tl : RepKV prog w z (kvs.map (fun kv => if kv.1 = k then (kv.1, v) else kv)) (ds.map (fun e => if keyIs k e.1 then (e.1, d) else e)) := by
          clear hany ih
          induction kvs generalizing ds with
          | nil => cases r2; exact .nil
          | cons kv kvs ih =>
            cases r2 with
            | @cons i2 _ _ _ _ r1 r2 =>
              simp only [List.map_cons, keyIs]
              by_cases q : i2 = k
              · simp only [q, decide_true, if_true]; exact .cons rv (ih r2)
              · simp only [q, decide_false, if_false]; exact .cons r1 (ih r2)
        simp only [List.map_cons, keyIs]
        by_cases q : i = k
        · simp only [q, decide_true, if_true]; exact .cons rv tl
        · simp only [q, decide_false, if_false]; exact .cons r1 tl
  · clear ha
    induction kvs generalizing ds with
    | nil => cases r; exact .cons rv .nil
    | cons kv kvs ih =>
      cases r with
      | cons r1 r2 =>
        rename_i hany
        exact .cons r1 (ih r2 (by rw [List.any_cons, Bool.or_eq_true, not_or] at hany; exact hany.2))

theorem RepKV.length {kvs : List (Int × Value)} {ds : List (PyData × PyData)} (r : RepKV prog w z kvs ds) : kvs.length = ds.length := by
  induction kvs generalizing ds with
  | nil => cases r; rfl
  | cons kv kvs ih => cases r with | cons r1 r2 => simp [ih r2]

theorem ex_setkey (IH : Snd prog w BC T base xb A (env :: outer) n) (S : St prog w base xb outer env sc old z Γ s.heap) {x : Str} {xp sp pos : Pos} {e i : Expr} {kvs : List (PyData × PyData)} (hx : Γ x = some (.dict kvs, true)) (hlen : kvs.length ≤ szMax)
    (F : FineO prog w BC base xb outer env sc old z s Q E (Out.of (ev T n sc Γ e) fun d => Out.of (ev T n sc Γ i) fun k => (match k with
          | .int k => .nxt (Γ.set x (.dict (storeKV k d kvs)) true)
          | _ => .bad))) : wpAny (model prog w) A (exec (.Assign [.Subscript (.Name x xp) i sp] e pos) env) Q E s := by
  refine wpAny_Assign_Subscript (fineO_of S (IH.ev _ _ _ _ _ _ · _ S.now) F fun v d z₁ h₁ t₁ _ X p S₁ F' => ?_) ?_
  · obtain ⟨hd, a, H, O⟩ := S₁.owned hx
    refine name_rule (s := { s with heap := h₁, toks := t₁ }) H S.kind hd ?_
    refine fineO_of (s := { s with heap := h₁, toks := t₁ }) S₁ (IH.ev _ _ _ _ _ _ · _ S₁.now) F' fun iv k z₂ h₂ t₂ _ X₂ p₂ S₂ F'' => ?_
    split at F''
    · rename_i k _
      cases p₂ with
      | int _ u =>
        obtain ⟨o, kv, h1, h2, h3⟩ := (O.at X₂.le fun o e => X₂.keep _ _ e).isDict
        refine wpAny_setItem_pairs (s := { s with heap := h₂, toks := t₂ }) (intKind_is prog w k u) (Heap.dictOf_iff.mpr ⟨o, h1, h2⟩) (fun h' hm hs => ?_) (by rw [h3.length, sizeLine_eq]; unfold szMax at hlen; omega)
        obtain ⟨o', ho', hd'⟩ := Heap.dictOf_iff.mp hm
        exact F'' z₂ h' _ (Tr.refl _ _) (S₂.mutate hx (H.keeps X₂.keep) hs (.dict ho' hd' (h3.stored (p.mono X₂.le))))
    · exact F''.elim
  · show swapsWith e _ _ env = _
    cases e <;> rfl

theorem Reps.set {vs : List Value} {ds : List PyData} {v : Value} {d : PyData} (r : Reps prog w z vs ds) (rv : Rep prog w z v d) (i : Nat) : Reps prog w z (vs.set i v) (ds.set i d) := by
  induction vs generalizing ds i with
  | nil => cases r; exact .nil
  | cons a vs ih =>
    cases r with
    | cons r1 r2 =>
      cases i with
      | zero => exact .cons rv r2
      | succ i => exact .cons r1 (ih r2 i)

theorem ex_setat (IH : Snd prog w BC T base xb A (env :: outer) n) (S : St prog w base xb outer env sc old z Γ s.heap) {x : Str} {xp sp pos : Pos} {e i : Expr} {ds : List PyData} (hx : Γ x = some (.list ds, true))
    (F : FineO prog w BC base xb outer env sc old z s Q E (Out.of (ev T n sc Γ e) fun d => Out.of (ev T n sc Γ i) fun k => (match k with
          | .int k => if 0 ≤ k ∧ k < ds.length then .nxt (Γ.set x (.list (ds.set k.toNat d)) true) else .bad
          | _ => .bad))) : wpAny (model prog w) A (exec (.Assign [.Subscript (.Name x xp) i sp] e pos) env) Q E s := by
  refine wpAny_Assign_Subscript (fineO_of S (IH.ev _ _ _ _ _ _ · _ S.now) F fun v d z₁ h₁ t₁ _ X p S₁ F' => ?_) ?_
  · obtain ⟨hd, a, H, O⟩ := S₁.owned hx
    refine name_rule (s := { s with heap := h₁, toks := t₁ }) H S.kind hd ?_
    refine fineO_of (s := { s with heap := h₁, toks := t₁ }) S₁ (IH.ev _ _ _ _ _ _ · _ S₁.now) F' fun iv k z₂ h₂ t₂ _ X₂ p₂ S₂ F'' => ?_
    split at F''
    · rename_i k _
      cases p₂ with
      | int _ u =>
        split at F''
        · rename_i hk
          obtain ⟨vs, m, h1, h2, h3⟩ := (O.at X₂.le fun o e => X₂.keep _ _ e).isList
          have hlen := h3.length
          have hk2 : k < vs.toArray.size := by rw [List.size_toArray, hlen]; exact hk.2
          have hfit : k < 2 ^ 63 := by rw [sizeLine_eq] at h2; rw [List.size_toArray] at hk2; omega
          refine ki_setAt (s := { s with heap := h₂, toks := t₂ }) (items := vs.toArray) (n := m) h1 hk.1 hfit hk2 ?_
          have hU := PySem.IsL.update (h := h₂) (l := a) (items := vs.toArray) (n := m) h1 (fun xs => xs.setIfInBounds k.toNat v)
          refine F'' z₂ _ _ (Tr.refl _ _) (S₂.mutate hx (H.keeps X₂.keep) (Heap.SameBut.update ..) (.list (vs := vs.set k.toNat v) (n := m) (hU.trans ?_) (by rw [List.length_set]; exact h2) (h3.set (p.mono X₂.le) _)))
          unfold lstO; simp
        · exact F''.elim
    · exact F''.elim
  · show swapsWith e _ _ env = _
    cases e <;> rfl
end
end
section
set_option linter.unusedVariables false
section
variable {prog : Program} {w : World} {BC : Addr} {T : Tab} {dep : Nat} {base xb : Heap} {mg mb : Str → Option Value} {A : Around} {outer : List Env} {env : Env} {frz : Nat → List Str}
variable {n : Nat} {sc : Scope} {Γ : Vars} {old z : Kept} {s : Shared} {Q : Flow → Shared → Prop} {E : Value → Shared → Prop}

theorem noted {M : Model} (hfr : A.frames = some (env :: outer)) (hf : env.frame = some env.locals) (H : ∀ e h' tk, XF BC xb (env :: outer) env.locals old h' e → E (.ref e) { s with heap := h', toks := tk }) :
    ∀ e h' tk, XF BC xb (env :: outer) env.locals old h' e → notedBy M A env (fun e s' => cameBackBy M A env E e s') (.ref e) { s with heap := h', toks := tk } := fun e h' tk x =>
  note_rule (s := { s with heap := h', toks := tk }) hfr hf x fun h'' a0 x' k => came_rule (s := { s with heap := h'', toks := tk }) hf x' k fun h3 x3 => H e h3 tk x3

theorem fineO_E {E' : Value → Shared → Prop} {o : Out} (F : FineO prog w BC base xb outer env sc old z s Q E o)
    (ke : (∀ e h' tk, XF BC xb (env :: outer) env.locals old h' e → E (.ref e) { s with heap := h', toks := tk }) → ∀ e h' tk, XF BC xb (env :: outer) env.locals old h' e → E' (.ref e) { s with heap := h', toks := tk }) :
    o = .exc → ∀ e h' tk, XF BC xb (env :: outer) env.locals old h' e → E' (.ref e) { s with heap := h', toks := tk } := fun q => by
  subst q; exact ke F

/-- an expression in a loop: what leaves it is noted first -/
theorem fineO_in {α β : Type} {M : Model} {BC : Addr} {P₁ : Kept → Heap → β → α → Prop} {t : Sem β} {r : Res α} {f : α → Out} {R : β → Shared → Prop} {E' : Value → Shared → Prop}
    (S : St prog w base xb outer env sc old z Γ s.heap)
    (h : ∀ R, FineG BC xb (env :: outer) z s P₁ R E' r → wpAny M A t R E' s) (hf : FineO prog w BC base xb outer env sc old z s Q E (Out.of r f))
    (ke : (∀ e h' tk, XF BC xb (env :: outer) env.locals old h' e → E (.ref e) { s with heap := h', toks := tk }) → ∀ e h' tk, XF BC xb (env :: outer) env.locals old h' e → E' (.ref e) { s with heap := h', toks := tk })
    (k : ∀ v d z₁ h₁ t₁, r = .ok d → Ext z z₁ s.heap h₁ → P₁ z₁ h₁ v d → St prog w base xb outer env sc old z₁ Γ h₁ → FineO prog w BC base xb outer env sc old z₁ { s with heap := h₁, toks := t₁ } Q E (f d) → R v { s with heap := h₁, toks := t₁ }) :
    wpAny M A t R E' s := by
  refine h R ?_
  cases r with
  | ok d => exact fun v z₁ h₁ t₁ X p => k v d z₁ h₁ t₁ rfl X p (S.ext X) (FineO.shift (X.tr S.keep) hf)
  | exc => exact fun e h' tk x => ke hf e h' tk (x.xf S.keep)
  | bad => exact hf.elim

theorem fineO_then {o : Out} {f : Vars → Out} {Q' : Flow → Shared → Prop} {E' : Value → Shared → Prop} (F : FineO prog w BC base xb outer env sc old z s Q E (o.andThen f))
    (kn : ∀ Γ' z' h' tk, o = .nxt Γ' → Tr old z z' → St prog w base xb outer env sc old z' Γ' h' → FineO prog w BC base xb outer env sc old z' { s with heap := h', toks := tk } Q E (f Γ') → Q' .next { s with heap := h', toks := tk })
    (kr : ∀ v s', Q (.ret v) s' → Q' (.ret v) s')
    (ke : (∀ e h' tk, XF BC xb (env :: outer) env.locals old h' e → E (.ref e) { s with heap := h', toks := tk }) → ∀ e h' tk, XF BC xb (env :: outer) env.locals old h' e → E' (.ref e) { s with heap := h', toks := tk }) :
    FineO prog w BC base xb outer env sc old z s Q' E' o := by
  cases o with
  | nxt Γ' => exact fun z' h' tk t S => kn Γ' z' h' tk rfl t S (FineO.shift t F)
  | ret d => exact fun v z' h' tk t k1 k2 r => kr _ _ (F v z' h' tk t k1 k2 r)
  | exc => exact ke F
  | bad => exact F.elim

variable (prog w BC T base xb A outer env sc frz)
structure SEx (n : Nat) : Prop where
  ex : ∀ Γ st old z s Q E, St prog w base xb outer env sc old z Γ s.heap → FineO prog w BC base xb outer env sc old z s Q E (ex T frz n sc Γ st) → wpAny (model prog w) A (exec st env) Q E s
  exs : ∀ Γ sts old z s Q E, St prog w base xb outer env sc old z Γ s.heap → FineO prog w BC base xb outer env sc old z s Q E (exs T frz n sc Γ sts) → wpAny (model prog w) A (execs sts env) Q E s
variable {prog w BC T base xb A outer env sc frz}

theorem snd_exs (SX : SEx prog w BC T base xb A outer env frz sc n) {sts : List Stmt} (S : St prog w base xb outer env sc old z Γ s.heap) (F : FineO prog w BC base xb outer env sc old z s Q E (exs T frz (n + 1) sc Γ sts)) :
    wpAny (model prog w) A (execs sts env) Q E s := by
  cases sts with
  | nil => exact wpAny_execs_nil (fineO_ok s.toks S F)
  | cons st r =>
    refine wpAny_execs_cons (SX.ex _ _ _ _ _ _ _ S (fineO_then (f := fun Γ' => exs T frz n sc Γ' r) F (fun Γ' z' h' tk _ t S' F' => ?_) (fun v s' q => q) fun q => q))
    exact SX.exs _ _ _ _ _ _ _ S' F'

theorem ex_if (IH : Snd prog w BC T base xb A (env :: outer) n) (SX : SEx prog w BC T base xb A outer env frz sc n) {t : Expr} {b o : List Stmt} {pos : Pos} (S : St prog w base xb outer env sc old z Γ s.heap)
    (F : FineO prog w BC base xb outer env sc old z s Q E (Out.of (evT T n sc Γ t) fun c => if c then exs T frz n sc Γ b else exs T frz n sc Γ o)) : wpAny (model prog w) A (exec (.If t b o pos) env) Q E s := by
  refine wpAny_If (fineO_of S (IH.evT _ _ _ _ _ _ · _ S.now) F fun v d z₁ h₁ t₁ _ X p S₁ F' => ?_)
  subst p
  cases v
  · exact SX.exs _ _ _ _ _ _ _ S₁ F'
  · exact SX.exs _ _ _ _ _ _ _ S₁ F'

theorem ex_while (IH : Snd prog w BC T base xb A (env :: outer) n) (SX : SEx prog w BC T base xb A outer env frz sc n) (hfr : A.frames = some (env :: outer)) {t : Expr} {b : List Stmt} {pos : Pos} {k : Nat} (S : St prog w base xb outer env sc old z Γ s.heap)
    (F : FineO prog w BC base xb outer env sc old z s Q E (whileL (fun Γ => evT T n sc Γ t) (fun Γ => exs T frz n sc Γ b) k Γ)) : wpAny (model prog w) A (exec (.While t b [] pos) env) Q E s := by
  refine wpAny_While (codeAny_whileLoop (fun k s' => ∃ z' Γ', St prog w base xb outer env sc old z' Γ' s'.heap ∧ FineO prog w BC base xb outer env sc old z' s' Q E (whileL (fun Γ => evT T n sc Γ t) (fun Γ => exs T frz n sc Γ b) k Γ')) ?_ k ⟨z, Γ, S, F⟩)
  rintro k s' ⟨z', Γ', S', F'⟩
  cases k with
  | zero => exact F'.elim
  | succ k =>
    simp only [whileL] at F'
    refine fineO_in S' (IH.evT _ _ _ _ _ _ · _ S'.now) F' (fun H => noted hfr S.frame H) fun v d z₁ h₁ t₁ _ X p S₁ F₁ => ?_
    subst p
    cases v with
    | false =>
      simp only [Bool.false_eq_true, if_false] at F₁ ⊢
      exact wpAny_execs_nil (fineO_ok (BC := BC) (E := E) t₁ S₁ F₁)
    | true =>
      simp only [if_true] at F₁ ⊢
      refine SX.exs _ _ _ _ _ _ _ S₁ (fineO_then F₁ (fun Γ₂ z₂ h₂ tk _ t S₂ F₂ => ?_) (fun v s' q => q) fun H => noted hfr S.frame H)
      exact ⟨k, Nat.lt_succ_self _, z₂, Γ₂, S₂, F₂⟩

theorem for_fin {d : PyData} {z₁ : Kept} {h₁ : Heap} {t₁ : Tok} {v : Value} {Q : Value → Shared → Prop} {E : Value → Shared → Prop} (on : z₁.on h₁) (p : Rep prog w z₁ v d)
    (F : FineG BC xb (env :: outer) z₁ { s with heap := h₁, toks := t₁ } (fun z' h' v d => Src prog w z' h' true v d) Q E (match (generalizing := false) d with | .list xs => Res.ok xs | .tuple xs => .ok xs | _ => .bad)) : Q v { s with heap := h₁, toks := t₁ } := by
  cases d with
  | list xs => exact F v z₁ h₁ t₁ (.refl on) (.list (.rep p) (fun _ => p))
  | tuple xs => exact F v z₁ h₁ t₁ (.refl on) (.tuple p)
  | _ => exact F.elim
theorem evFor_inv (e : Expr) : IsC1 e ∨ evFor T n sc Γ e = (ev T n sc Γ e).bind fun d => (match d with | .list xs => Res.ok xs | .tuple xs => .ok xs | _ => .bad) := by
  cases e with
  | Call f args kws pos => cases f with
    | Name x px => cases args with
      | nil => exact .inr rfl
      | cons a as => cases as with
        | cons _ _ => exact .inr rfl
        | nil => cases kws with
          | cons _ _ => exact .inr rfl
          | nil => exact .inl ⟨x, px, a, pos, rfl⟩
    | _ => cases args with
      | nil => exact .inr rfl
      | cons _ as => cases as <;> exact .inr rfl
  | _ => exact .inr rfl
theorem for_iter1 (IH : Snd prog w BC T base xb A (env :: outer) n) (W : World0 prog w BC T dep base mg mb) {x : Str} {px pos : Pos} {a : Expr} {Q : Value → Shared → Prop} (N : Now prog w base xb (env :: outer) env sc z Γ s.heap)
    (F : FineG BC xb (env :: outer) z s (fun z' h' v d => Src prog w z' h' true v d) Q E (evFor T n sc Γ (.Call (.Name x px) [a] [] pos))) : wpAny (model prog w) A (eval (.Call (.Name x px) [a] [] pos) env) Q E s := by
  by_cases hx : x = "range"
  · subst hx
    have F : FineG BC xb (env :: outer) z s (fun z' h' v d => Src prog w z' h' true v d) Q E (evIter T (n + 1) sc Γ (.Call (.Name "range" px) [a] [] pos)) := F
    rw [evIter_rng] at F
    cases hΓ : Γ "range" with
    | some _ => rw [hΓ] at F; exact False.elim F
    | none =>
      rw [hΓ] at F
      obtain ⟨hg, F⟩ := fine_guard F
      have hst : ∀ p q, a ≠ .Starred p q := fun p q h => by subst h; rw [ev_starred] at F; exact F
      refine Call_Name (built_rule W N hg W.bi.2.2.2.2.2.2.2.2.1 W.bi.2.2.2.2.2.2.2.2.2 (by decide) ?_)
      rw [back_one hst]
      refine callWith_type1 (fine_bind (IH.ev _ _ _ _ _ _ · _ N) F fun v d z₁ h₁ t₁ _ X p F' => ?_)
      cases d with
      | int k =>
        obtain ⟨hk, F'⟩ := fine_guard F'
        simp only [Bool.and_eq_true, decide_eq_true_eq] at hk
        cases p with | int _ t =>
        refine call_range_1 ?_
        exact F' _ z₁ _ _ (Ext.heap X.on fun b o e => Heap.get?_push_of_some _ e) (.range (Heap.get?_push_size _ rfl) hk.1 hk.2)
      | _ => exact F'.elim
  · have F : FineG BC xb (env :: outer) z s (fun z' h' v d => Src prog w z' h' true v d) Q E ((ev T n sc Γ (.Call (.Name x px) [a] [] pos)).bind fun d => (match d with | .list xs => Res.ok xs | .tuple xs => .ok xs | _ => .bad)) := by
      rw [show evFor T n sc Γ (.Call (.Name x px) [a] [] pos) = (ev T n sc Γ (.Call (.Name x px) [a] [] pos)).bind fun d => (match d with | .list xs => Res.ok xs | .tuple xs => .ok xs | _ => .bad) from if_neg hx] at F
      exact F
    refine fine_bind (IH.ev _ _ _ _ _ _ · _ N) F fun v d z₁ h₁ t₁ _ X p F' => ?_
    exact for_fin X.on p F'
theorem for_iter (IH : Snd prog w BC T base xb A (env :: outer) n) (W : World0 prog w BC T dep base mg mb) {e : Expr} {Q : Value → Shared → Prop} (N : Now prog w base xb (env :: outer) env sc z Γ s.heap)
    (F : FineG BC xb (env :: outer) z s (fun z' h' v d => Src prog w z' h' true v d) Q E (evFor T n sc Γ e)) : wpAny (model prog w) A (eval e env) Q E s := by
  rcases evFor_inv (T := T) (n := n) (sc := sc) (Γ := Γ) e with ⟨x, px, a, pos, rfl⟩ | h
  · exact for_iter1 IH W N F
  · rw [h] at F
    refine fine_bind (IH.ev _ _ _ _ _ _ · _ N) F fun v d z₁ h₁ t₁ _ X p F' => ?_
    exact for_fin X.on p F'

theorem ev_set {a b c} : ev T n sc Γ (.Set a b c) = .bad := by cases n <;> rfl

theorem ex_for (IH : Snd prog w BC T base xb A (env :: outer) n) (SX : SEx prog w BC T base xb A outer env frz sc n) (hR : Room A (env :: outer) dep) (W : World0 prog w BC T dep base mg mb) {x : Str} {xp pos : Pos} {it : Expr} {b : List Stmt} (hx : storable sc x = true)
    (S : St prog w base xb outer env sc old z Γ s.heap)
    (F : FineO prog w BC base xb outer env sc old z s Q E (Out.of (evFor T n sc Γ it) fun ds => forL (fun Γ => exs T frz n sc Γ b) x ds Γ)) : wpAny (model prog w) A (exec (.For (.Name x xp) it b [] pos) env) Q E s := by
  have hset : ∀ a b c, it ≠ .Set a b c := fun a b c q => by
    subst q
    have h : evFor T n sc Γ (.Set a b c) = .bad := by
      show (ev T n sc Γ (.Set a b c)).bind _ = _
      rw [ev_set]; rfl
    rw [h] at F; exact F
  refine wpAny_For (fineO_of S (fun R FF => for_iter IH W S.now FF) F fun v ds z₁ h₁ t₁ _ X p S₁ F₁ => ?_) (foldedSet_of hset)
  refine iter_rule (s := { s with heap := h₁, toks := t₁ }) hR.hh X.on p fun I fp P Wt h2 WK st0 hI0 hIx k2 hfp hP => ?_
  have oI : old I = none := none_of_on S₁.keep hI0
  have zI : z₁ I = none := none_of_on S₁.on hI0
  obtain ⟨o0, ho0, hn0⟩ := hIx 0 h2 st0
  have S₂ : St prog w base xb outer env sc (old.put I o0) z₁ Γ h2 := S₁.reold (old := old) (I := I) S.hb S.hxb S.fr (fun _ _ => rfl) (fun a n => Kept.put_ne n) oI zI
    (fun o e => by rw [Kept.put_self] at e; cases e; exact ho0) (.inl hI0) fun b o _ e => k2 b o e
  have frame : ∀ {i : Nat} {h h' : Heap} {z' z'' : Kept} {o : Obj}, Wt i h → h.get? I = some o → h'.get? I = some o → z₁.le z' → z'.on h → z₁.le z'' → z''.on h' → Wt i h' := by
    intro i h h' z' z'' o st e e' le on le' on'
    refine WK.frame i h h' st fun c hc oc ec => ?_
    by_cases q : c = I
    · subst q; rw [e] at ec; cases ec; exact e'
    · obtain ⟨oc', _, hzc⟩ := hfp c hc q
      have h1 := on _ _ (le _ _ (hzc rfl))
      rw [ec] at h1; cases h1
      exact on' _ _ (le' _ _ (hzc rfl))
  refine codeAny_forLoop (fun n' s' => ∃ i z' Γ' o, i + n' = ds.length ∧ Wt i s'.heap ∧ s'.heap.get? I = some o ∧ (∀ v, o.data ≠ .cell v) ∧ St prog w base xb outer env sc (old.put I o) z' Γ' s'.heap ∧ z' I = none ∧ z₁.le z' ∧
    FineO prog w BC base xb outer env sc old z' s' Q E (forL (fun Γ => exs T frz n sc Γ b) x (ds.drop i) Γ')) ?_ ds.length ?_
  · rintro n' s' ⟨i, z', Γ', o, hin, st, ho, hno, S', zI', le', F'⟩
    by_cases hi : i < ds.length
    · refine WK.item i _ _ _ hi st fun v h4 tk4 hPv st4 hk4 => ?_
      obtain ⟨d, hd, rd⟩ := hP i v hi hPv
      have hk4' : ∀ b o, b ≠ I → s'.heap.get? b = some o → h4.get? b = some o := fun b o hb e => hk4 b o (by simpa using hb) e
      obtain ⟨o4, ho4, hn4⟩ := hIx _ _ st4
      have S4 : St prog w base xb outer env sc (old.put I o4) z' Γ' h4 := S'.reold (old := old) (I := I) S.hb S.hxb S.fr (fun a n => Kept.put_ne n) (fun a n => Kept.put_ne n) oI zI'
        (fun o e => by rw [Kept.put_self] at e; cases e; exact ho4) (.inr ⟨o, Kept.put_self _ _ _, hno⟩) hk4'
      have hdrop : ds.drop i = d :: ds.drop (i + 1) := by
        rw [List.drop_eq_getElem_cons hi]
        congr 1
        rw [List.getElem?_eq_getElem hi] at hd
        exact Option.some.inj hd
      rw [hdrop] at F'
      simp only [forL] at F'
      refine wpAny_assign_Name (S4.store (s := { s' with heap := h4, toks := tk4 }) hx (rd.mono le') fun h5 tk5 S5 => ?_)
      have ho5 : h5.get? I = some o4 := S5.keep _ _ (Kept.put_self _ _ _)
      have st5 := frame st4 ho4 ho5 le' S4.on le' S5.on
      have key : ∀ {out : Out}, FineO prog w BC base xb outer env sc old z' s' Q E (out.andThen (forL (fun Γ => exs T frz n sc Γ b) x (ds.drop (i + 1)))) →
          FineO prog w BC base xb outer env sc (old.put I o4) z' { s' with heap := h5, toks := tk5 } (fun f s₃ => match f with
            | .next | .cont => ∃ m, m < n' ∧ ∃ i z' Γ' o, i + m = ds.length ∧ Wt i s₃.heap ∧ s₃.heap.get? I = some o ∧ (∀ v, o.data ≠ .cell v) ∧ St prog w base xb outer env sc (old.put I o) z' Γ' s₃.heap ∧ z' I = none ∧ z₁.le z' ∧
                FineO prog w BC base xb outer env sc old z' s₃ Q E (forL (fun Γ => exs T frz n sc Γ b) x (ds.drop i) Γ')
            | .brk => Q .next s₃
            | .ret v => Q (.ret v) s₃) (notedBy (model prog w) A env fun e s' => cameBackBy (model prog w) A env E e s') out := by
        intro out F
        cases out with
        | nxt Γ2 =>
          intro z2 h6 tk6 t2 S6
          have ho6 : h6.get? I = some o4 := S6.keep _ _ (Kept.put_self _ _ _)
          exact ⟨n' - 1, by omega, i + 1, z2, Γ2, o4, by omega, frame st5 ho5 ho6 le' S5.on (Kept.le_trans le' t2.le) S6.on, ho6, hn4, S6, (t2.old _ _ (Kept.put_self _ _ _)).trans zI', Kept.le_trans le' t2.le,
            FineO.shift (t2.less (Kept.put_le oI)) F⟩
        | ret d => exact fun v z2 h6 tk6 t2 k1 k2 r => F v z2 h6 tk6 (t2.less (Kept.put_le oI)) (fun a o e => k1 a o (Kept.put_le oI _ _ e)) k2 r
        | exc => exact fun e h6 tk6 xf => noted (s := s') hR.fr S.frame F e h6 tk6 (xf.less (Kept.put_le oI))
        | bad => exact F
      exact SX.exs _ _ _ _ _ _ _ S5 (key F')
    · have hi' : i = ds.length := by omega
      subst hi'
      refine WK.done _ _ _ st fun h4 tk4 hk4 => ?_
      have hk4' : ∀ b o, b ≠ I → s'.heap.get? b = some o → h4.get? b = some o := fun b o hb e => hk4 b o (by simpa using hb) e
      rw [List.drop_length] at F'
      simp only [forL] at F'
      refine wpAny_execs_nil (fineO_ok (BC := BC) (E := E) tk4 (S'.reold (old := old) (new := old) (I := I) S.hb S.hxb S.fr (fun a n => Kept.put_ne n) (fun _ _ => rfl) oI zI' (fun o e => by rw [oI] at e; cases e) (.inr ⟨o, Kept.put_self _ _ _, hno⟩) hk4') F')
  · exact ⟨0, z₁, Γ, o0, by omega, st0, ho0, hn0, S₂, zI, z₁.le_refl, by rw [List.drop_zero]; exact F₁⟩
end
end
section
set_option linter.unusedVariables false
section
variable {prog : Program} {w : World} {BC : Addr} {T : Tab} {dep : Nat} {base xb : Heap} {mg mb : Str → Option Value} {A : Around} {outer : List Env} {env : Env} {frz : Nat → List Str}
variable {n : Nat} {sc : Scope} {Γ : Vars} {old z : Kept} {s : Shared} {Q : Flow → Shared → Prop} {E : Value → Shared → Prop}

/-- the program's own exception is made and raised -/
noncomputable def RaiseOk (prog : Program) (w : World) (BC : Addr) (base : Heap) : Prop :=
  ∀ (A : Around) (fr : List Env) (xb : Heap) (c : Str) (np cpos pos : Pos) (args : List Expr) (env : Env) (s : Shared) (Q : Flow → Shared → Prop) (E : Value → Shared → Prop), A.handled = none → A.frames = some fr → A.depth + 1 < recursionLimit → A.units + 144 < cLine →
    (backTo cpos (starEach args env)).any (·.1) = false →
    wpAny (model prog w) A (eval (.Name c np) env) (fun f s₁ => f = .ref BC ∧ wpAny (model prog w) A (evalArgs (.ref BC) true (backTo cpos (starEach args env)) []) (fun a s₂ => ∃ v₁ v₂, a = ⟨[v₁, v₂], []⟩ ∧
        (∀ a o, base.get? a = some o → s₂.heap.get? a = some o) ∧ xb.StaysIn s₂.heap ∧ s₂.heap.FunFrames xb fr ∧
        ∀ e h' tk, MadeF xb fr e (.ref BC) h' → (∀ a o, s₂.heap.get? a = some o → h'.get? a = some o) → E (.ref e) { s₂ with heap := h', toks := tk }) E s₁) E s →
    wpAny (model prog w) A (exec (.Raise (some (.Call (.Name c np) args [] cpos)) none pos) env) Q E s

theorem ex_raise (IH : Snd prog w BC T base xb A (env :: outer) n) (hR : Room A (env :: outer) dep) (h1 : 1 ≤ dep) (W : World0 prog w BC T dep base mg mb) (hBC : mg "BadCode" = some (.ref BC)) (RO : RaiseOk prog w BC base) (S : St prog w base xb outer env sc old z Γ s.heap)
    {c : Str} {np cpos pos : Pos} {args : List Expr} (hc : c = "BadCode" ∧ isGlob sc c = true ∧ Γ c = none ∧ args.all notStar = true ∧ args.length = 2)
    (F : FineO prog w BC base xb outer env sc old z s Q E (match evs T n sc Γ args with | .ok _ => .exc | _ => .bad)) : wpAny (model prog w) A (exec (.Raise (some (.Call (.Name c np) args [] cpos)) none pos) env) Q E s := by
  obtain ⟨rfl, hg, _, hst, hlen⟩ := hc
  refine RO A (env :: outer) xb _ _ _ _ _ _ _ _ _ hR.hh hR.fr (by have := hR.depth; omega) (by have := hR.units; omega) (back_plain hst) (glob_rule W S.now hg hBC (by decide) ⟨rfl, ?_⟩)
  refine evalArgs_rule hst (by cases args with | nil => cases hlen | cons _ _ => rfl) ?_
  refine IH.evs _ _ _ _ _ _ _ _ _ S.now ?_
  cases he : evs T n sc Γ args with
  | ok ds =>
    rw [he] at F
    intro vs z' h' tk X R
    have hl := R.length
    have : ds.length = 2 := by
      have key : ∀ (m : Nat) (es : List Expr) (ds : List PyData), evs T m sc Γ es = .ok ds → ds.length = es.length := by
        intro m
        induction m with
        | zero => intro es ds e; cases e
        | succ m ih =>
          intro es ds e
          cases es with
          | nil => cases e; rfl
          | cons e1 es =>
            have e : (ev T m sc Γ e1).bind (fun d => (evs T m sc Γ es).bind fun ds => .ok (d :: ds)) = .ok ds := e
            obtain ⟨d, _, e⟩ := bind_ok e
            obtain ⟨ds', h', e⟩ := bind_ok e
            cases e
            rw [List.length_cons, List.length_cons, ih _ _ h']
      rw [key _ _ _ he, hlen]
    match vs, hl with
    | [v₁, v₂], _ =>
      have S' := S.ext X
      refine ⟨v₁, v₂, rfl, fun a o e => S'.keep a o (S.hb a o e), fun a o e => S'.keep a o (S.hxb a o e), S'.ff, fun e h2 tk2 hm hk => ?_⟩
      exact F e h2 tk2 ⟨.inr (.inr hm), fun b o e _ => ⟨o.slots, hk _ _ (S'.keep b o e)⟩⟩
    | [], q => rw [this] at q; cases q
    | [_], q => rw [this] at q; cases q
    | _ :: _ :: _ :: _, q => rw [this] at q; simp at q
  | exc => rw [he] at F; exact F.elim
  | bad => rw [he] at F; exact F.elim

theorem St.frozen (S : St prog w base xb outer env sc old z Γ s.heap) (l : List Str) {o : Out} {P : Prop} (F : FineO prog w BC base xb outer env sc old z s Q E o)
    (k : ∀ z', St prog w base xb outer env sc old z' (Γ.freeze l) s.heap → FineO prog w BC base xb outer env sc old z' s Q E o → P) : P := by
  obtain ⟨z', t, S'⟩ := S.freeze l
  exact k z' S' (FineO.shift (h₁ := s.heap) (t₁ := s.toks) t F)

theorem swaps_plain {x : Str} {xp : Pos} {l : Nat} {e : Expr} (h : isComp e = false) : swapsWith e (some (.Name x xp)) l env = pure false := by
  cases e <;> first | rfl | cases h
theorem swaps_cell {x : Str} {xp : Pos} {l : Nat} {e : Expr} (h : env.kindOf x ≠ some .local) : swapsWith e (some (.Name x xp)) l env = pure false := by
  have : (env.kindOf x == some .local) = false := by simpa using h
  cases e <;> first | rfl | (show (pure _ : Sem Bool) = _; rw [this]; simp)

noncomputable def IsApp (e : Expr) : Prop := ∃ x xp m apos e' cpos, e = .Call (.Attribute (.Name x xp) m apos) [e'] [] cpos
noncomputable def exDrop (T : Tab) (frz : Nat → List Str) (n : Nat) (sc : Scope) (Γ : Vars) (e : Expr) (pos : Pos) : Out :=
  if isComp e = true then .bad else Out.of (ev T n sc (Γ.freeze (frz pos.line)) e) fun d => if loose d = true then .nxt (Γ.freeze (frz pos.line)) else .bad
theorem ex_expr {pos : Pos} (e : Expr) : IsApp e ∨ ex T frz (n + 1) sc Γ (.Expr e pos) = exDrop T frz n sc Γ e pos := by
  cases e with
  | Call f args kws cpos => cases f with
    | Attribute v m apos => cases v with
      | Name x xp => cases kws with
        | nil => cases args with
          | nil => exact .inr rfl
          | cons a as => cases as with
            | nil => exact .inl ⟨x, xp, m, apos, a, cpos, rfl⟩
            | cons _ _ => exact .inr rfl
        | cons _ _ => cases args with
          | nil => exact .inr rfl
          | cons a as => cases as <;> exact .inr rfl
      | _ => exact .inr rfl
    | _ => exact .inr rfl
  | _ => exact .inr rfl
/-- the statements that the reading knows -/
inductive Shp : Stmt → Prop
  | expr (e : Expr) (pos : Pos) : Shp (.Expr e pos)
  | ret (v : Option Expr) (pos : Pos) : Shp (.Return v pos)
  | asg1 (x : Str) (xp : Pos) (e : Expr) (pos : Pos) : Shp (.Assign [.Name x xp] e pos)
  | asg2 (x y : Str) (xp yp tp pos : Pos) (k : Nat) (e : Expr) : Shp (.Assign [.Tuple [.Name x xp, .Name y yp] k tp] e pos)
  | asg3 (x : Str) (xp sp pos : Pos) (i e : Expr) : Shp (.Assign [.Subscript (.Name x xp) i sp] e pos)
  | aug (x : Str) (xp pos : Pos) (op : Operator) (e : Expr) : Shp (.AugAssign (.Name x xp) op e pos)
  | iff (t : Expr) (b o : List Stmt) (pos : Pos) : Shp (.If t b o pos)
  | whl (t : Expr) (b : List Stmt) (pos : Pos) : Shp (.While t b [] pos)
  | for_ (x : Str) (xp pos : Pos) (it : Expr) (b : List Stmt) : Shp (.For (.Name x xp) it b [] pos)
  | rai (c : Str) (np cp pos : Pos) (args : List Expr) : Shp (.Raise (some (.Call (.Name c np) args [] cp)) none pos)
theorem ex_shape (st : Stmt) : Shp st ∨ ex T frz (n + 1) sc Γ st = .bad := by
  cases st with
  | Expr e pos => exact .inl (.expr _ _)
  | Return v pos => exact .inl (.ret _ _)
  | Assign ts e pos => cases ts with
    | nil => exact .inr rfl
    | cons t ts => cases ts with
      | cons _ _ => cases t with
        | Subscript v _ _ => cases v <;> exact .inr rfl
        | Tuple es _ _ => cases es with
          | nil => exact .inr rfl
          | cons a es => cases a with
            | Name _ _ => cases es with
              | nil => exact .inr rfl
              | cons b es => cases b with
                | Name _ _ => cases es <;> exact .inr rfl
                | _ => exact .inr rfl
            | _ => exact .inr rfl
        | _ => exact .inr rfl
      | nil => cases t with
        | Name x xp => exact .inl (.asg1 _ _ _ _)
        | Tuple es k tp => cases es with
          | nil => exact .inr rfl
          | cons a es => cases a with
            | Name x xp => cases es with
              | nil => exact .inr rfl
              | cons b es => cases b with
                | Name y yp => cases es with
                  | nil => exact .inl (.asg2 _ _ _ _ _ _ _ _)
                  | cons _ _ => exact .inr rfl
                | _ => exact .inr rfl
            | _ => exact .inr rfl
        | Subscript v i sp => cases v with
          | Name x xp => exact .inl (.asg3 _ _ _ _ _ _)
          | _ => exact .inr rfl
        | _ => exact .inr rfl
  | AugAssign t op e pos => cases t with
    | Name x xp => exact .inl (.aug _ _ _ _ _)
    | _ => exact .inr rfl
  | If t b o pos => exact .inl (.iff _ _ _ _)
  | While t b o pos => cases o with
    | nil => exact .inl (.whl _ _ _)
    | cons _ _ => exact .inr rfl
  | For t it b o pos => cases t with
    | Name x xp => cases o with
      | nil => exact .inl (.for_ _ _ _ _ _)
      | cons _ _ => exact .inr rfl
    | _ => exact .inr rfl
  | Raise x c pos => cases x with
    | none => exact .inr rfl
    | some x => cases x with
      | Call f args kws cpos => cases f with
        | Name c' np => cases kws with
          | nil => cases c with
            | some _ => exact .inr rfl
            | none => exact .inl (.rai _ _ _ _ _)
          | cons _ _ => exact .inr rfl
        | _ => exact .inr rfl
      | _ => exact .inr rfl
  | _ => exact .inr rfl
section
variable (IH : ∀ n, Snd prog w BC T base xb A (env :: outer) n) (SX : SEx prog w BC T base xb A outer env frz sc n) (hR : Room A (env :: outer) dep) (h1 : 1 ≤ dep) (W : World0 prog w BC T dep base mg mb) (hBC : mg "BadCode" = some (.ref BC)) (RO : RaiseOk prog w BC base)
    (S : St prog w base xb outer env sc old z Γ s.heap)
include IH S
omit IH S in
theorem iteF {c : Prop} [Decidable c] {a b : Out} (hc : c) (F : FineO prog w BC base xb outer env sc old z s Q E (if c then a else b)) : FineO prog w BC base xb outer env sc old z s Q E a := by rw [if_pos hc] at F; exact F
omit IH S in
theorem iteN {c : Prop} [Decidable c] {a b : Out} (hc : ¬ c) (F : FineO prog w BC base xb outer env sc old z s Q E (if c then a else b)) : FineO prog w BC base xb outer env sc old z s Q E b := by rw [if_neg hc] at F; exact F
theorem snd_drop {e : Expr} {pos : Pos} (F : FineO prog w BC base xb outer env sc old z s Q E (if isComp e = true then .bad else Out.of (ev T n sc (Γ.freeze (frz pos.line)) e) fun d => if loose d = true then .nxt (Γ.freeze (frz pos.line)) else .bad)) :
    wpAny (model prog w) A (exec (.Expr e pos) env) Q E s := by
  refine S.frozen (frz pos.line) F fun z' S F => ?_
  cases hc : isComp e with
  | true => rw [hc] at F; exact F.elim
  | false => rw [hc] at F; exact ex_drop (IH n) S hc F
theorem snd_app {x m : Str} {xp apos cpos pos : Pos} {e : Expr} (F : FineO prog w BC base xb outer env sc old z s Q E (ex T frz (n + 1) sc Γ (.Expr (.Call (.Attribute (.Name x xp) m apos) [e] [] cpos) pos))) :
    wpAny (model prog w) A (exec (.Expr (.Call (.Attribute (.Name x xp) m apos) [e] [] cpos) pos) env) Q E s := by
  refine S.frozen (frz pos.line) F fun z' S F => ?_
  conv at F => rhs; whnf
  cases hx : (Γ.freeze (frz pos.line)) x with
  | none => rw [hx] at F; exact F.elim
  | some p =>
    obtain ⟨d, own⟩ := p
    rw [hx] at F
    cases d with
    | list ds => cases own with
      | true =>
        by_cases hc : m = "append" ∧ apos.endLine = cpos.line ∧ notStar e = true ∧ isComp e = false ∧ ds.length ≤ szMax
        · exact ex_append (IH n) S hx hc (by have F := F; simp only [if_pos hc] at F; exact F)
        · exact False.elim (by have F := F; simp only [if_neg hc] at F; exact F)
      | false => exact False.elim F
    | _ => exact False.elim F
theorem snd_expr {e : Expr} {pos : Pos} (F : FineO prog w BC base xb outer env sc old z s Q E (ex T frz (n + 1) sc Γ (.Expr e pos))) : wpAny (model prog w) A (exec (.Expr e pos) env) Q E s := by
  rcases ex_expr (T := T) (frz := frz) (n := n) (sc := sc) (Γ := Γ) (pos := pos) e with ⟨x, xp, m, apos, e, cpos, rfl⟩ | h
  · exact snd_app IH S F
  · rw [h] at F; exact snd_drop IH S F
theorem snd_asg0 {x : Str} {xp pos : Pos} {e : Expr} (F : FineO prog w BC base xb outer env sc old z s Q E (if storable sc x = true then (if isComp e = true then .bad else Out.of (ev T n sc (Γ.freeze (frz pos.line)) e) fun d => .nxt ((Γ.freeze (frz pos.line)).set x d false)) else .bad)) :
    wpAny (model prog w) A (exec (.Assign [.Name x xp] e pos) env) Q E s := by
  refine S.frozen (frz pos.line) F fun z' S F => ?_
  cases hx : storable sc x with
  | false => rw [hx] at F; exact F.elim
  | true =>
    rw [hx] at F
    cases hc : isComp e with
    | true => rw [hc] at F; exact F.elim
    | false => rw [hc] at F; exact ex_name (IH n) S hx (swaps_plain hc) F
include hR in
theorem snd_asgc {x : Str} {xp cp pos : Pos} {elt : Expr} {gens : List Comprehension} {csc : Scope} (F : FineO prog w BC base xb outer env sc old z s Q E (ex T frz (n + 1) sc Γ (.Assign [.Name x xp] (.ListComp elt gens csc cp) pos))) :
    wpAny (model prog w) A (exec (.Assign [.Name x xp] (.ListComp elt gens csc cp) pos) env) Q E s := by
  refine S.frozen (frz pos.line) F fun z' S F => ?_
  conv at F => rhs; whnf
  cases hx : storable sc x with
  | false => rw [hx] at F; exact False.elim F
  | true =>
    rw [hx] at F
    by_cases hl : sc.names.lookup x = some .local
    · have F : FineO prog w BC base xb outer env sc old z' s Q E (if xp.line = cp.line ∧ (csc.names.any fun (n, k) => n == x && (k == .local || k == .cell)) = false then Out.of (evComp T n sc (Γ.freeze (frz pos.line)) elt gens csc) fun ds => .nxt ((Γ.freeze (frz pos.line)).set x (.list ds) true) else .bad) := by
        have F := F
        simp only [if_true, if_pos hl] at F
        exact F
      by_cases hc : xp.line = cp.line ∧ (csc.names.any fun (n, k) => n == x && (k == .local || k == .cell)) = false
      · rw [if_pos hc] at F
        cases n with
        | zero => exact False.elim F
        | succ n => exact ex_comp (IH n) hR S hx hl hc.1 hc.2 F
      · rw [if_neg hc] at F; exact F.elim
    · have F : FineO prog w BC base xb outer env sc old z' s Q E (Out.of (ev T n sc (Γ.freeze (frz pos.line)) (.ListComp elt gens csc cp)) fun d => .nxt ((Γ.freeze (frz pos.line)).set x d false)) := by
        have F := F
        simp only [if_true, if_neg hl] at F
        exact F
      refine ex_name (IH n) S hx (swaps_cell fun q => ?_) F
      have hx' := hx
      simp only [storable, Bool.and_eq_true, isLoc, Bool.or_eq_true, beq_iff_eq] at hx'
      rcases hx'.1.1 with q' | q'
      · exact absurd q' hl
      · rcases S.isC _ (.inl q') with e | e <;> (rw [q] at e; cases e)
include hR in
theorem snd_asg1 {x : Str} {xp pos : Pos} {e : Expr} (F : FineO prog w BC base xb outer env sc old z s Q E (ex T frz (n + 1) sc Γ (.Assign [.Name x xp] e pos))) : wpAny (model prog w) A (exec (.Assign [.Name x xp] e pos) env) Q E s := by
  have two : ∀ {o : Out} {P : Prop} (F : FineO prog w BC base xb outer env sc old z s Q E (if storable sc x = true then o else .bad)) (k : storable sc x = true → FineO prog w BC base xb outer env sc old z s Q E o → P), P := fun {o P} F k => by
    cases hx : storable sc x with
    | false => rw [hx] at F; exact F.elim
    | true => rw [hx] at F; exact k hx F
  cases e with
  | List es ep => cases es with
    | nil => exact two F fun hx F => S.frozen (frz pos.line) F fun z' S F => ex_nil S hx F
    | cons _ _ => exact snd_asg0 IH S F
  | Dict ks vs ep => cases ks with
    | nil => cases vs with
      | nil => exact two F fun hx F => S.frozen (frz pos.line) F fun z' S F => ex_emp S hx F
      | cons _ _ => exact snd_asg0 IH S F
    | cons _ _ => exact snd_asg0 IH S F
  | ListComp elt gens csc cp => exact snd_asgc IH hR S F
  | _ => exact snd_asg0 IH S F
include hR in
theorem snd_asg2 {x y : Str} {xp yp tp pos : Pos} {k : Nat} {e : Expr} (F : FineO prog w BC base xb outer env sc old z s Q E (ex T frz (n + 1) sc Γ (.Assign [.Tuple [.Name x xp, .Name y yp] k tp] e pos))) :
    wpAny (model prog w) A (exec (.Assign [.Tuple [.Name x xp, .Name y yp] k tp] e pos) env) Q E s := by
  refine S.frozen (frz pos.line) F fun z' S F => ?_
  cases hc : (storable sc x && storable sc y && !isComp e && !(x == y)) with
  | false =>
    conv at F => rhs; whnf
    rw [hc] at F; exact False.elim F
  | true =>
    have hc' := hc
    simp only [Bool.and_eq_true, Bool.not_eq_true'] at hc'
    by_cases ht : ∃ a b c, e = .Tuple a b c
    · obtain ⟨a, b, c, rfl⟩ := ht
      conv at F => rhs; whnf
      rw [hc] at F; exact False.elim F
    · refine ex_unpack (IH n) hR.hh S hc'.1.1.1 hc'.1.1.2 hc'.1.2 hc'.2 (fun a b c q => ht ⟨a, b, c, q⟩) ?_
      conv at F => rhs; whnf
      rw [hc] at F
      cases e <;> first | exact F | exact absurd ⟨_, _, _, rfl⟩ ht
theorem snd_asg3 {x : Str} {xp sp pos : Pos} {i e : Expr} (F : FineO prog w BC base xb outer env sc old z s Q E (ex T frz (n + 1) sc Γ (.Assign [.Subscript (.Name x xp) i sp] e pos))) :
    wpAny (model prog w) A (exec (.Assign [.Subscript (.Name x xp) i sp] e pos) env) Q E s := by
  refine S.frozen (frz pos.line) F fun z' S F => ?_
  conv at F => rhs; whnf
  cases hx : (Γ.freeze (frz pos.line)) x with
  | none => rw [hx] at F; exact False.elim F
  | some p =>
    obtain ⟨d, own⟩ := p
    rw [hx] at F
    cases own with
    | false => cases d <;> exact False.elim F
    | true => cases d with
      | list ds => exact ex_setat (IH n) S hx F
      | dict kvs =>
        by_cases hl : kvs.length ≤ szMax
        · exact ex_setkey (IH n) S hx hl (by have F := F; simp only [if_pos hl] at F; exact F)
        · exact False.elim (by have F := F; simp only [if_neg hl] at F; exact F)
      | _ => exact False.elim F
theorem snd_aug {x : Str} {xp pos : Pos} {op : Operator} {e : Expr} (F : FineO prog w BC base xb outer env sc old z s Q E (ex T frz (n + 1) sc Γ (.AugAssign (.Name x xp) op e pos))) : wpAny (model prog w) A (exec (.AugAssign (.Name x xp) op e pos) env) Q E s := by
  refine S.frozen (frz pos.line) F fun z' S F => ?_
  cases op with
  | Add =>
    conv at F => rhs; whnf
    cases hx : (Γ.freeze (frz pos.line)) x with
    | none => rw [hx] at F; exact False.elim F
    | some p =>
      obtain ⟨d, own⟩ := p
      rw [hx] at F
      cases d with
      | int i =>
        cases hs : storable sc x with
        | true => rw [hs] at F; exact ex_aug (IH n) S hs hx F
        | false => rw [hs] at F; exact False.elim F
      | _ => exact False.elim F
  | _ => exact False.elim F
include SX hR h1 W hBC RO in
theorem snd_ex {st : Stmt} (F : FineO prog w BC base xb outer env sc old z s Q E (ex T frz (n + 1) sc Γ st)) : wpAny (model prog w) A (exec st env) Q E s := by
  rcases ex_shape (T := T) (frz := frz) (n := n) (sc := sc) (Γ := Γ) st with h | h
  · cases h with
    | expr e pos => exact snd_expr IH S F
    | ret v pos => cases v with
      | some e => exact S.frozen (frz pos.line) F fun z' S F => ex_ret (IH n) S F
      | none => exact S.frozen (frz pos.line) F fun z' S F => ex_ret0 S F
    | asg1 x xp e pos => exact snd_asg1 IH hR S F
    | asg2 x y xp yp tp pos k e => exact snd_asg2 IH hR S F
    | asg3 x xp sp pos i e => exact snd_asg3 IH S F
    | aug x xp pos op e => exact snd_aug IH S F
    | iff t b o pos => exact S.frozen (frz pos.line) F fun z' S F => ex_if (IH n) SX S F
    | whl t b pos => exact S.frozen (frz pos.line) F fun z' S F => ex_while (IH n) SX hR.fr S F
    | for_ x xp pos it b =>
      refine S.frozen (frz pos.line) F fun z' S F => ?_
      cases hx : storable sc x with
      | true => exact ex_for (IH n) SX hR W hx S (by conv at F => rhs; whnf
                                                     rw [hx] at F; exact F)
      | false => exact False.elim (by conv at F => rhs; whnf
                                      rw [hx] at F; exact F)
    | rai c np cp pos args =>
      by_cases hc : c = "BadCode" ∧ isGlob sc c = true ∧ Γ c = none ∧ args.all notStar = true ∧ args.length = 2
      · exact ex_raise (IH n) hR h1 W hBC RO S hc (iteF hc F)
      · exact False.elim (iteN hc F)
  · rw [h] at F; exact F.elim
end

theorem sndx (hR : Room A (env :: outer) dep) (h1 : 1 ≤ dep) (W : World0 prog w BC T dep base mg mb) (hBC : mg "BadCode" = some (.ref BC)) (RO : RaiseOk prog w BC base) : ∀ n, SEx prog w BC T base xb A outer env frz sc n
  | 0 => { ex := fun _ _ _ _ _ _ _ _ F => False.elim F, exs := fun _ _ _ _ _ _ _ _ F => False.elim F }
  | n + 1 =>
    have SX := sndx hR h1 W hBC RO n
    { ex := fun _ _ _ _ _ _ _ S F => snd_ex (fun n => snd hR W n) SX hR h1 W hBC RO S F
      exs := fun _ _ _ _ _ _ _ S F => snd_exs SX S F }
end
end
section
set_option linter.unusedVariables false

theorem zip_lookup {α : Type} {x : Str} : ∀ {names : List Str} {vs : List α} {v : α}, (names.zip vs).lookup x = some v → x ∈ names
  | n :: ns, v0 :: vs, v, h => by
    rw [List.zip_cons_cons, List.lookup_cons] at h
    cases hb : x == n with
    | true => rw [beq_iff_eq.mp hb]; exact List.mem_cons_self
    | false => rw [hb] at h; exact List.mem_cons_of_mem _ (zip_lookup h)
  | [], _, _, h => by simp at h
  | _ :: _, [], _, h => by simp at h

section
variable {prog : Program} {w : World}
theorem reps_zip {z : Kept} {x : Str} : ∀ {names : List Str} {vs : List Value} {ds : List PyData} {d : PyData}, Reps prog w z vs ds → (names.zip ds).lookup x = some d → ∃ v, (names.zip vs).lookup x = some v ∧ Rep prog w z v d
  | [], _, _, _, _, h => by simp at h
  | n :: ns, [], _, _, r, h => by cases r; simp at h
  | n :: ns, v :: vs, _, d, r, h => by
    cases r with
    | cons r1 r2 =>
      rw [List.zip_cons_cons, List.lookup_cons] at h ⊢
      cases hb : x == n with
      | true => rw [hb] at h; cases h; exact ⟨v, by simp, r1⟩
      | false => rw [hb] at h; simpa using reps_zip r2 h
end

theorem bindL_get {kindOf : Str → Option NameKind} {x : Str} (hx : kindOf x = some .local) : ∀ (names : List Str) (vs : List Value) (m : Str → Option Value), names.Nodup →
    bindL kindOf (names.zip vs) m x = ((names.zip vs).lookup x).or (m x)
  | [], _, m, _ => by simp [bindL]
  | n :: ns, [], m, _ => by simp [bindL]
  | n :: ns, v :: vs, m, hn => by
    rw [List.zip_cons_cons]
    unfold bindL
    rw [bindL_get hx ns vs _ (List.nodup_cons.mp hn).2, List.lookup_cons]
    cases hb : x == n with
    | true =>
      have e := beq_iff_eq.mp hb
      subst e
      have : (ns.zip vs).lookup x = none := by
        cases q : (ns.zip vs).lookup x with
        | none => rfl
        | some v => exact absurd (zip_lookup q) (List.nodup_cons.mp hn).1
      rw [this, if_pos hx, if_pos rfl]; rfl
    | false =>
      have e : x ≠ n := fun q => by rw [q] at hb; simp at hb
      congr 1
      split
      · exact if_neg e
      · rfl
theorem bindC_get {kindOf : Str → Option NameKind} {x : Str} (hx : kindOf x ≠ some .local) : ∀ (names : List Str) (vs : List Value) (m : Str → Option Value), names.Nodup →
    bindC kindOf (names.zip vs) m x = ((names.zip vs).lookup x).or (m x)
  | [], _, m, _ => by simp [bindC]
  | n :: ns, [], m, _ => by simp [bindC]
  | n :: ns, v :: vs, m, hn => by
    rw [List.zip_cons_cons]
    unfold bindC
    rw [bindC_get hx ns vs _ (List.nodup_cons.mp hn).2, List.lookup_cons]
    cases hb : x == n with
    | true =>
      have e := beq_iff_eq.mp hb
      subst e
      have : (ns.zip vs).lookup x = none := by
        cases q : (ns.zip vs).lookup x with
        | none => rfl
        | some v => exact absurd (zip_lookup q) (List.nodup_cons.mp hn).1
      rw [this, if_neg hx, if_pos rfl]; rfl
    | false =>
      have e : x ≠ n := fun q => by rw [q] at hb; simp at hb
      congr 1
      split
      · rfl
      · exact if_neg e

section
variable {prog : Program} {w : World} {BC : Addr} {T : Tab} {dep : Nat} {base : Heap} {mg mb : Str → Option Value}

theorem glob_of {sc : Scope} {y : Str} (h : isGlob sc y = true) : sc.names.lookup y = some .globalImplicit := by simpa [isGlob] using h
/-- the state at a def's start -/
theorem St.start {A : Around} {fr : List Env} {xb : Heap} {z : Kept} {s s₁ : Shared} {vs : List Value} {ds : List PyData} {name : Str} {params : Arguments} {body : List Stmt} {scope : Scope} {pm cd doc : Value} {fa : Addr} {names : List Str}
    (hb : ∀ a o, base.get? a = some o → s.heap.get? a = some o) (hxb : xb.StaysIn s.heap) (hff : s.heap.FunFrames xb fr) (hon : z.on s.heap) (hr : Reps prog w z vs ds) (hst : names.all (storable scope) = true) (hnd : names.Nodup) (hk : scope.kind = .function)
    (x : InCallC s (callEnvC (docDef name params body scope pm cd doc) s.heap.objs.size fa).locals (bindL (callEnvC (docDef name params body scope pm cd doc) s.heap.objs.size fa).kindOf (names.zip vs) fun _ => none) (callEnvC (docDef name params body scope pm cd doc) s.heap.objs.size fa).cells
        (bindC (callEnvC (docDef name params body scope pm cd doc) s.heap.objs.size fa).kindOf (names.zip vs) fun _ => none) s₁) :
    St prog w base xb fr (callEnvC (docDef name params body scope pm cd doc) s.heap.objs.size fa) scope s.heap.get? z (bindV names ds) s₁.heap := by
  have fresh : ∀ {a : Addr}, s.heap.objs.size ≤ a → s.heap.get? a = none := fun {a} ha => by
    cases e : s.heap.get? a with
    | none => rfl
    | some o' => exact absurd (Heap.lt_size e) (Nat.not_lt.mpr ha)
  have own : ∀ y d o, (bindV names ds) y = some (d, o) → o = false ∧ (names.zip ds).lookup y = some d := by
    intro y d o e
    unfold bindV at e
    cases q : (names.zip ds).lookup y with
    | none => rw [q] at e; cases e
    | some d' => rw [q] at e; simp at e; exact ⟨e.2, by rw [e.1]⟩
  refine { kind := hk, glob := rfl, bi := rfl, frame := rfl, isG := fun y hy => glob_of hy, isC := fun y hy => hy, isL := fun y hy => hy, pl := ?_, inj := ?_, hb := hb, hxb := hxb, keep := x.toInCall.keep,
           on := fun a o e => x.toInCall.keep a o (hon a o e), ns := ⟨_, x.toInCall.ns⟩, Lold := ?_, fr := KFrames.of hff, vals := ?_, sep := ?_ }
  · intro y hy
    simp only [storable, Bool.and_eq_true, Bool.not_eq_true', isLoc, Bool.or_eq_true, beq_iff_eq] at hy
    obtain ⟨⟨hy, _⟩, hy3⟩ := hy
    rcases hy with hy | hy
    · exact ⟨_, .inl ⟨hy, rfl, _, x.toInCall.ns⟩, fresh x.toInCall.fresh, none_of_on hon (fresh x.toInCall.fresh)⟩
    · obtain ⟨c, hc⟩ := Option.isSome_iff_exists.mp (cellsFrom_some (x := y) scope.names (s.heap.objs.size + 1) [] (.inl hy))
      have hc' : (callEnvC (docDef name params body scope pm cd doc) s.heap.objs.size fa).cells.lookup y = some c := hc
      have hlt := x.above y c (PySem.mem_of_lookup hc')
      have hf := fresh (a := c) (Nat.le_trans x.toInCall.fresh (Nat.le_of_lt hlt))
      exact ⟨c, .inr ⟨hy3, hy, hc', _, x.cell y c hc'⟩, hf, none_of_on hon hf⟩
  · intro y y' p e e'
    exact PySem.name_of_addr x.apart (PySem.mem_of_lookup e) (PySem.mem_of_lookup e')
  · exact ⟨fresh x.toInCall.fresh, none_of_on hon (fresh x.toInCall.fresh)⟩
  · intro y d o e
    obtain ⟨q, e'⟩ := own y d o e
    subst q
    obtain ⟨v, ev, rv⟩ := reps_zip hr e'
    have hy := List.all_eq_true.mp hst y (zip_lookup e')
    simp only [storable, Bool.and_eq_true, Bool.not_eq_true', isLoc, Bool.or_eq_true, beq_iff_eq] at hy
    obtain ⟨⟨hy, hy2⟩, hy3⟩ := hy
    refine ⟨hy2, v, ?_, fun _ => rv, fun q => by cases q⟩
    rcases hy with hy | hy
    · refine .inl ⟨hy, _, x.toInCall.ns, ?_⟩
      rw [bindL_get (kindOf := (callEnvC (docDef name params body scope pm cd doc) s.heap.objs.size fa).kindOf) hy _ _ _ hnd, ev]; rfl
    · obtain ⟨c, hc⟩ := Option.isSome_iff_exists.mp (cellsFrom_some (x := y) scope.names (s.heap.objs.size + 1) [] (.inl hy))
      refine .inr ⟨hy3, .inl hy, c, hc, ?_⟩
      have := x.cell y c hc
      rwa [bindC_get (kindOf := (callEnvC (docDef name params body scope pm cd doc) s.heap.objs.size fa).kindOf) (by
        show scope.names.lookup y ≠ _
        rw [hy]; decide) _ _ _ hnd, ev] at this
  · intro y y' d d' a e1
    obtain ⟨q, _⟩ := own _ _ _ e1
    cases q

theorem contract (W : World0 prog w BC T dep base mg mb) (h1 : 1 ≤ dep) (hBC : mg "BadCode" = some (.ref BC)) (RO : RaiseOk prog w BC base) {name : Str} {params : Arguments} {body : List Stmt} {scope : Scope} {pm cd doc : Value} {fa : Addr} {o : Obj} {names : List Str}
    (ho : base.get? fa = some o) (hd : o.data = .func (docDef name params body scope pm cd doc)) (hcd : base.CodeRec cd name) (hbind : ∀ vals : List Value, names.length = vals.length → bindArgs (docDef name params body scope pm cd doc) ⟨vals, []⟩ = pure (names.zip vals))
    (hst : names.all (storable scope) = true) (hnd : names.Nodup) (hk : scope.kind = .function) (hco : scope.isCoroutine = false) (hgen : scope.isGenerator = false) (frz : Nat → List Str) (n : Nat) :
    Contract prog w BC base (dep + 1) fa (runDef T frz n scope names body) := by
  intro A fr xb z s vs ds R hh hfr hdp hun hb hxb hff hon hr F
  unfold runDef at F
  split at F
  · rename_i hlen
    refine codeAny_call_cells (fd := docDef name params body scope pm cd doc) (body := body) (binds := names.zip vs) (by omega) (hb _ _ ho) hd (W.nolimit.keeps hb) (hcd.keeps hb) rfl (hbind vs (by rw [hlen, hr.length])) rfl (fun x hx => ?_) (fun s₁ x => ?_) hco hgen hk
    · have := List.all_eq_true.mp hst x.1 (List.of_mem_zip hx).1
      simp only [storable, Bool.and_eq_true, Bool.not_eq_true', isLoc, Bool.or_eq_true, beq_iff_eq] at this
      rcases this.1.1 with q | q
      · exact .inl q
      · exact .inr ⟨q, cellsFrom_some (x := x.1) scope.names (s.heap.objs.size + 1) [] (.inl q)⟩
    · have S := St.start (prog := prog) (w := w) (base := base) (A := A) (z := z) hb hxb hff hon hr hst hnd hk x
      obtain ⟨h1', tk1, rfl, hkeep⟩ := x.done
      generalize hE : callEnvC (docDef name params body scope pm cd doc) s.heap.objs.size fa = env at S ⊢
      have hR : Room (A.deeper env) (env :: fr) dep := ⟨hh, by show A.frames.map _ = _; rw [hfr]; rfl, by show A.depth + 1 + dep < _; omega, by show A.units + 3 + 16 * dep + 128 < _; omega⟩
      have ext : ∀ {z' : Kept} {h' : Heap}, Tr s.heap.get? z z' → Kept.on s.heap.get? h' → z'.on h' → Ext z z' s.heap h' := fun t k o => ⟨t.le, t.old, o, k⟩
      refine (sndx (frz := frz) hR h1 W hBC RO n).exs _ _ _ _ _ _ _ S ?_
      cases ho : exs T frz n scope (bindV names ds) body with
      | nxt Γ' =>
        rw [ho] at F
        exact fun z' h' tk t S' => F .none z' h' tk (ext t S'.keep S'.on) .none
      | ret d =>
        rw [ho] at F
        exact fun v z' h' tk t k1 k2 r => F v z' h' tk (ext t k1 k2) r
      | exc =>
        rw [ho] at F
        intro e h' tk xf
        exact leave_rule (s := { s with heap := h', toks := tk }) hR.fr S.frame xf fun h2 a0 fl k => F e h2 tk ⟨⟨a0, fl⟩, k⟩
      | bad => rw [ho] at F; exact F.elim
  · exact F.elim
end
end
section
set_option maxRecDepth 100000
set_option linter.unusedVariables false
section
variable {prog : Program} {w : World} {A : Around} {E : Value → Shared → Prop} {h : Heap} {g : Array GenState} {d : Drawn} {t : Nat} {os : OsState}
variable {nm q : Str} {C N Rr : Addr} {bs : List Value} {sub : List Value} {k0 k1 k2 k3 k5 : Option Value}

noncomputable abbrev tailB : List Value := [.type "Exception", .type "BaseException", .type "object"]
noncomputable abbrev clsO (nm q : Str) (C N Rr : Addr) (bs sub : List Value) (k0 k1 k2 k3 k5 : Option Value) : Obj := excClassObj nm q C N bs (.ref Rr :: tailB) true [] sub false none none k0 k1 k2 k3 k5 "Exception.__new__"
noncomputable abbrev excO (C T : Addr) : Obj := { cls := .ref C, data := .fields #[.ref T, .none, .none, .none, .bool false, .none] }

theorem hasT (X : String) : (Value.ref C :: .ref Rr :: tailB).contains (.type X) = tailB.contains (.type X) := by rfl

theorem new_check {rest : List Value} {M : Model} {Q : Unit → Shared → Prop} (hC : h.get? C = some (clsO nm q C N Rr bs sub k0 k1 k2 k3 k5)) (hq : Q () ⟨h, g, d, t, os⟩) : wpAny M A (checkBuiltinCall "Exception.__new__" ⟨.ref C :: rest, []⟩) Q E ⟨h, g, d, t, os⟩ := by
  have F := PySem.F.excBase_Exception
  have hb : (Value.ref C :: .ref Rr :: tailB).contains (.type "Exception") = true := by rw [hasT]; decide +kernel
  have hstar := F.noStar
  simp only [checkBuiltinCall, F.newKind, F.newSplit, F.newRow]
  repeat (first | refine wpAny_loadPart_at hC ?_ | (refine wpAny_isSubtype_exc hC ?_; rw [hb]) | refine wpAny_staticBase_exc hC ?_ | refine wpAny_madeBy_exc hC ?_ | simp only [bne_self_eq_false, Bool.false_eq_true, if_false] | wp_step)
  exact hq

theorem new_run {rest : List Value} {R : Result → Shared → Prop} (hC : h.get? C = some (clsO nm q C N Rr bs sub k0 k1 k2 k3 k5)) (hrest : rest.length ≤ sizeLine)
    (hq : R (.ok (.ret (.ref (h.objs.size + 1)))) ⟨(h.push { cls := .type "tuple", data := .seq rest.toArray }).push (excO C h.objs.size), g, d, t, os⟩) :
    codeAny (model prog w) A (.builtin "Exception.__new__" ⟨.ref C :: rest, []⟩) R ⟨h, g, d, t, os⟩ := by
  have F := PySem.F.excBase_Exception
  have hends := F.ends
  have hB : (Value.ref C :: .ref Rr :: tailB).contains (.type "Exception") = true := by rw [hasT]; decide +kernel
  have hA : (Value.ref C :: .ref Rr :: tailB).contains (.type "AttributeError") = false := by rw [hasT]; decide +kernel
  have hN : (Value.ref C :: .ref Rr :: tailB).contains (.type "NameError") = false := by rw [hasT]; decide +kernel
  refine codeAny_builtinAt F.entry ?_
  unfold Builtin.«BaseException.__new__»
  refine PySem.wpAt_bind ?_
  show PySem.wpAt _ _ _ (stack >>= _) _ _ _
  refine PySem.wpAt_bind (PySem.wpAt_stack fun p below => PySem.wpAt_of_wpAny ?_)
  wp_walk
  refine PySem.wpAt_of_wpAny ?_
  rw [F.owner]
  repeat (first | with_reducible refine wpAny_madeHere_exc F.canon hC ?_ | with_reducible refine wpAny_loadPart_at hC ?_ | (with_reducible refine wpAny_isSubtype_exc hC ?_; first | rw [hB] | rw [hA] | rw [hN]) | wp_step)
  show R _ _
  rw [Heap.size_push]
  exact hq
end
end
section
set_option maxRecDepth 100000
set_option linter.unusedVariables false

/-- the new exception; what is old stands -/
structure EX (old : Kept) (C e : Addr) (mA : Str → Option Value) (h : Heap) : Prop where
  keep : old.on h
  new : old e = none
  obj : ∃ oe T, h.get? e = some oe ∧ oe.cls = .ref C ∧ oe.data = .fields #[.ref T, .none, .none, .none, .bool false, .none] ∧
    ((oe.dict = none ∧ ∀ n, mA n = none) ∨ ∃ dx, oe.dict = some dx ∧ dx ≠ e ∧ old dx = none ∧ h.Ns1 dx mA)

section
variable {prog : Program} {w : World} {A : Around} {E : Value → Shared → Prop} {s : Shared} {K : Frag} {C Rr e : Addr} {old : Kept} {mA : Str → Option Value} {cd : ClassData} {name : Str} {v : Value}

theorem EX.inst (x : EX old C e mA s.heap) : ∃ oe od, InstAt s.heap e oe C od := by
  obtain ⟨oe, T, h1, h2, h3, h4⟩ := x.obj
  have no : notCls oe = true := by unfold notCls; rw [h3]
  rcases h4 with ⟨h4, _⟩ | ⟨dx, h4, _, _, o, es, ep, h5, _⟩
  · exact ⟨oe, none, h1, h2, no, by rw [h4]; trivial⟩
  · exact ⟨oe, some o, h1, h2, no, by rw [h4]; exact h5⟩

theorem store_core {R : Result → Shared → Prop} {ns : List Str} {tk0 : Tok} (X : K.In s.heap) (hc : clsIn K C = some cd) (hd : cd.hasDict = true) (hm : cd.mro = .ref C :: .ref Rr :: tailB)
    (hn : findIn K (.ref C) name = some none) (x : EX old C e mA s.heap) (hw : Within mA ns) (hsz : ns.length ≤ 1000)
    (hq : ∀ h' tk, EX old C e (fun y => if y = name then some v else mA y) h' → R (.ok (.ret .none)) { s with heap := h', toks := tk }) : codeAny (model prog w) A (.call (.builtin "object.__setattr__") ⟨[.ref e, .str name tk0, v], []⟩) R s := by
  obtain ⟨oe, od, I⟩ := x.inst
  have SF := PySem.F.store_object
  have sub : Looks (model prog w) s.heap (isInstance (.ref e) (.type "object")) true := I.type.andThen (looks_mroIn X (by unfold mroIn; rw [hc, Option.bind_some, hm]; rfl))
  refine codeAny_call_builtin SF.slot.plain SF.entry (@check_slot (model prog w) _ _ s "object.__setattr__" "object" "__setattr__" (.ref e) [.str name tk0, v] [] _ SF.kind SF.split sub (SF.args (.ref e) (.str name tk0) v) ?_)
  have LM : Looks (model prog w) s.heap (mroOf (.ref C)) cd.mro := (looks_clsIn X hc).andThen .now
  rw [osa_eq, refuse_eq]
  refine wpAny_bind (wpAny_bind (I.type.here (wpAny_bind (LM.here ?_))))
  rw [hm, refuseLoop_ref, refuseLoop_ref, PySem.F.store_Exception.passes]
  refine wpAny_pure (wpAny_bind (I.type.here (wpAny_bind ((looks_findIn X hn).here (wpAny_bind (wpAny_pure ?_))))))
  obtain ⟨oe', T, h1, h2, h3, h4⟩ := x.obj
  have same := I.at_
  rw [h1] at same; cases same
  obtain ⟨oc, odi, oda, osl⟩ := oe
  dsimp only at h2 h3 h4
  subst h2; subst h3
  refine wpAny_bind (wpAny_pure (wpAny_bind (wpAny_bind (wpAny_loadPart h1 (wpAny_bind ((looks_clsIn X hc).here ?_))))))
  rw [hd]
  rcases h4 with ⟨rfl, h4⟩ | ⟨dx, rfl, h5, h6, h7⟩
  · refine wpAny_bind (wpAny_alloc ?_)
    have hx₁ : (s.heap.push { cls := .type "dict", data := .dict #[] }).get? e = some ⟨.ref C, none, .fields #[.ref T, .none, .none, .none, .bool false, .none], osl⟩ := Heap.get?_push_of_some _ h1
    have hxs : e ≠ s.heap.objs.size := Nat.ne_of_lt (Heap.lt_size h1)
    refine wpAny_bind (wpAny_update hx₁ ?_)
    refine wpAny_pure (a := some s.heap.objs.size) (wpAny_bind (wpAny_pure (wpAny_bind ?_)))
    have gd : ((s.heap.push { cls := .type "dict", data := .dict #[] }).update e fun o => { o with dict := some s.heap.objs.size }).get? s.heap.objs.size = some { cls := .type "dict", data := .dict #[] } :=
      (Heap.get?_update_other _ _ hxs).trans (Heap.get?_push_at rfl rfl)
    have nd : ((s.heap.push { cls := .type "dict", data := .dict #[] }).update e fun o => { o with dict := some s.heap.objs.size }).Ns s.heap.objs.size (fun _ => none) :=
      ⟨_, #[], _, gd, rfl, fun e he => absurd he (by simp), fun _ => rfl⟩
    refine wpAny_nsSet1 (Heap.Ns1.of_empty nd) fun h' hn' hs' => ?_
    obtain ⟨oD, esD, epD, hoD, hdD, hcD⟩ := hn'.count (Within.cons name v Within.nil)
    refine wpAny_bind (wpAny_lookBehind hoD (by rw [hdD]; exact pastItsLine_dict (Nat.le_trans hcD (by rw [List.length_cons, List.length_nil, sizeLine_eq]; omega))) ?_)
    refine wpAny_pure (hq h' _ ⟨fun b o eb => ?_, x.new, ?_⟩)
    · have hb := x.keep b o eb
      have b1 : b ≠ e := fun q => by subst q; rw [x.new] at eb; cases eb
      exact (hs'.2 b (Nat.ne_of_lt (Heap.lt_size hb))).trans ((Heap.get?_update_other _ _ (Ne.symm b1)).trans (Heap.get?_push_of_some _ hb))
    · refine ⟨⟨.ref C, some s.heap.objs.size, _, osl⟩, T, (hs'.2 e hxs).trans (Heap.get?_update_self _ hx₁ rfl), rfl, rfl, .inr ⟨s.heap.objs.size, rfl, Ne.symm hxs, none_of_on x.keep (get_size_none _), ?_⟩⟩
      obtain ⟨o', es, ep, e1, e2, e3, eu, e4⟩ := hn'
      exact ⟨o', es, ep, e1, e2, e3, eu, fun y => by rw [e4 y]; by_cases hy : y = name <;> simp [hy, h4]⟩
  · refine wpAny_pure (a := some dx) (wpAny_bind (wpAny_pure (wpAny_bind ?_)))
    refine wpAny_nsSet1 h7 fun h' hn' hs' => ?_
    obtain ⟨oD, esD, epD, hoD, hdD, hcD⟩ := hn'.count (Within.cons name v hw)
    refine wpAny_bind (wpAny_lookBehind hoD (by rw [hdD]; exact pastItsLine_dict (Nat.le_trans hcD (by rw [List.length_cons, sizeLine_eq]; omega))) ?_)
    refine wpAny_pure (hq h' _ ⟨fun b o eb => (hs'.2 b fun q => by rw [q, h6] at eb; cases eb).trans (x.keep b o eb), x.new, ?_⟩)
    exact ⟨_, T, (hs'.2 e (Ne.symm h5)).trans h1, rfl, rfl, .inr ⟨dx, rfl, h5, h6, hn'⟩⟩

theorem store_at {Q : Unit → Shared → Prop} {ns : List Str} (X : K.In s.heap) (hc : clsIn K C = some cd) (hd : cd.hasDict = true) (hm : cd.mro = .ref C :: .ref Rr :: tailB) (hs : findIn K (.ref C) "__setattr__" = some (some (.builtin "object.__setattr__")))
    (hn : findIn K (.ref C) name = some none) (x : EX old C e mA s.heap) (hw : Within mA ns) (hsz : ns.length ≤ 1000)
    (hq : ∀ h' tk, EX old C e (fun y => if y = name then some v else mA y) h' → Q () { s with heap := h', toks := tk }) : wpAny (model prog w) A (setAttr (.ref e) name v) Q E s := by
  obtain ⟨oe, od, I⟩ := x.inst
  exact set_plain X I hs (store_core (s := { s with toks := s.toks + 1 }) X hc hd hm hn x hw hsz hq)
end
end
section
set_option maxRecDepth 100000
set_option linter.unusedVariables false

/-- one statement that lays an argument on the new thing: the mark, the argument, the places -/
noncomputable abbrev SetQ := Str × Str × Pos × Pos × Pos × Pos
noncomputable def setSt (me : Str) (q : SetQ) : Stmt := .Assign [.Attribute (.Name me q.2.2.1) q.1 q.2.2.2.1] (.Name q.2.1 q.2.2.2.2.1) q.2.2.2.2.2
noncomputable def unSet : Stmt → SetQ
  | .Assign [.Attribute (.Name _ p1) a p2] (.Name y p3) p4 => (a, y, p1, p2, p3, p4)
  | _ => ("", "", ⟨0, 0, 0, 0⟩, ⟨0, 0, 0, 0⟩, ⟨0, 0, 0, 0⟩, ⟨0, 0, 0, 0⟩)
/-- a text that lays its arguments on the new thing -/
noncomputable def setsOk (K : Frag) (C : Addr) (me : Str) (names : List Str) (qs : List SetQ) : Bool :=
  qs.all fun q => names.contains me && names.contains q.2.1 && !(me == "__debug__") && !(q.2.1 == "__debug__") && (findIn K (.ref C) q.1 == some none)

section
variable {prog : Program} {w : World} {A : Around} {E : Value → Shared → Prop} {s : Shared} {K : Frag} {C Rr e : Addr} {old : Kept} {mA : Str → Option Value} {cd : ClassData} {v : Value} {env : Env}

theorem sets_run {me : Str} {names : List Str} {m : Str → Option Value} (hkeep : ∀ a o, K.lookup a = some o → old a = some o) (hc : clsIn K C = some cd) (hd : cd.hasDict = true) (hm : cd.mro = .ref C :: .ref Rr :: tailB)
    (hs : findIn K (.ref C) "__setattr__" = some (some (.builtin "object.__setattr__"))) (hk : env.scope.kind = .function) (hl : ∀ x ∈ names, env.kindOf x = some .local) (hv : ∀ x ∈ names, ∃ v, m x = some v) (hme : m me = some (.ref e))
    (hL : ∀ h : Heap, old.on h → h.Ns env.locals m) {Q : Flow → Shared → Prop} :
    ∀ (body : List SetQ) (s : Shared) (mA : Str → Option Value) (ns : List Str), setsOk K C me names body = true → EX old C e mA s.heap → Within mA ns → ns.length + body.length ≤ 1000 →
      (∀ h' tk mA', EX old C e mA' h' → Q .next { s with heap := h', toks := tk }) → wpAny (model prog w) A (execs (body.map (setSt me)) env) Q E s
  | [], s, mA, ns, _, x, _, _, hq => wpAny_execs_nil (hq s.heap s.toks mA x)
  | (a, y, p1, p2, p3, p4) :: r, s, mA, ns, ok, x, hw, hz, hq => by
    unfold setsOk at ok
    rw [List.all_cons] at ok
    have hr : setsOk K C me names r = true := (Bool.and_eq_true_iff.mp ok).2
    have ok := (Bool.and_eq_true_iff.mp ok).1
    · simp only [Bool.and_eq_true, beq_iff_eq, List.contains_iff_mem, Bool.not_eq_true'] at ok
      obtain ⟨⟨⟨⟨hx, hy⟩, dx⟩, dy⟩, hn⟩ := ok
      obtain ⟨v, hvy⟩ := hv y hy
      refine wpAny_execs_cons (wpAny_Assign_stores (wpAny_Name (wpAny_loadName_local hk (hl y hy) (hL s.heap x.keep) hvy ?_) dy) rfl rfl)
      show wpAny _ _ (assign (.Attribute (.Name me p1) a p2) env v) _ _ _
      rw [arm_assign_Attribute]
      refine wpAny_bind (wpAny_holding (wpAny_Name (wpAny_loadName_local hk (hl me hx) (hL s.heap x.keep) hme ?_) dx))
      refine wpAny_bind (wpAny_standAt (wpAny_bind (wpAny_holding (store_at (fun a o q => x.keep _ _ (hkeep a o q)) hc hd hm hs hn x hw (by rw [List.length_cons] at hz; omega) fun h' tk x' => ?_))))
      refine wpAny_release ?_
      exact sets_run hkeep hc hd hm hs hk hl hv hme hL r { s with heap := h', toks := tk } _ (a :: ns) hr x' (Within.cons a v hw) (by rw [List.length_cons] at hz ⊢; omega) hq

theorem glue {h : Heap} {g : Array GenState} {d : Drawn} {t : Nat} {os : OsState} {nm q : Str} {N fI : Addr} {bs sub : List Value} {k0 k1 k2 k3 k5 : Option Value} {oI : Obj} {fd : FuncData} {n1 n2 n3 : Str} {qs : List SetQ} {v1 v2 : Value} {Q : Value → Shared → Prop}
    (X : K.In h) (hlim : h.NoLimit) (hC : K.lookup C = some (clsO nm q C N Rr bs sub k0 k1 k2 k3 k5)) (hs : findIn K (.ref C) "__setattr__" = some (some (.builtin "object.__setattr__"))) (hi : findIn K (.ref C) "__init__" = some (some (.ref fI)))
    (hI : K.lookup fI = some oI) (hIt : oI.cls = .type "function") (hfd : oI.data = .func fd) (hcd : h.CodeRec fd.code fd.qualname) (hbody : fd.body = .stmts (qs.map (setSt n1))) (hclo : fd.closure = [])
    (hbind : ∀ a b c : Value, bindArgs fd ⟨[a, b, c], []⟩ = pure [(n1, a), (n2, b), (n3, c)]) (hl : ∀ x ∈ [n1, n2, n3], fd.scope.names.lookup x = some .local) (hnd : [n1, n2, n3].Nodup) (ok : setsOk K C n1 [n1, n2, n3] qs = true) (hbl : qs.length ≤ 900)
    (hco : fd.scope.isCoroutine = false) (hgen : fd.scope.isGenerator = false) (hk : fd.scope.kind = .function) (hroom : A.depth + 1 < recursionLimit)
    (hq : ∀ e h' tk mA, EX h.get? C e mA h' → Q (.ref e) ⟨h', g, d, tk, os⟩) : wpAny (model prog w) A (call (.ref C) [v1, v2]) Q E ⟨h, g, d, t, os⟩ := by
  have hC' := X _ _ hC
  have f1 := tc_lookup
  have f2 := tc_bind (.ref C)
  have hT : (⟨h, g, d, t, os⟩ : Shared).TypeIs (.ref C) "type" := ⟨_, hC', rfl⟩
  refine wpAny_call (codeAny_of_tree ?_)
  show wpAny _ _ (callAny (.ref C) _) _ _ _
  repeat (any_goals (first | assumption | with_reducible refine wpAny_loadPart_at hC' ?_ | wp_step))
  refine ⟨rfl, ?_⟩
  refine codeAny_call_builtin_at (Code.quiet_builtin _ (by decide +kernel)) entry_typeCall (wpAny_check_type_call_sub hC' ?_)
  repeat (first | with_reducible refine wpAny_loadPart_at hC' ?_ | with_reducible refine wpAny_madeBy_exc hC' ?_ | wp_step)
  refine codeAny_call_builtin_code (Code.quiet_builtin _ PySem.F.excBase_Exception.quiet) (new_check hC' ?_)
  refine new_run (rest := [v1, v2]) hC' (by show 2 ≤ _; rw [sizeLine_eq]; omega) ?_
  show wpAny _ _ _ _ _ _
  have k1' : ∀ b o, h.get? b = some o → ((h.push { cls := .type "tuple", data := .seq [v1, v2].toArray }).push (excO C h.objs.size)).get? b = some o := fun b o e => Heap.get?_push_of_some _ (Heap.get?_push_of_some _ e)
  generalize hh1 : (h.push { cls := .type "tuple", data := .seq [v1, v2].toArray }).push (excO C h.objs.size) = h1 at k1' ⊢
  have X1 : K.In h1 := X.keeps k1'
  have hget : h1.get? (h.objs.size + 1) = some (excO C h.objs.size) := by
    rw [← hh1]; exact Heap.get?_push_at (by rw [Heap.size_push]) rfl
  have hcls : clsIn K C = some { name := nm, bases := bs, mro := .ref C :: .ref Rr :: tailB, ns := N, qualname := q, subclasses := sub } := by unfold clsIn; rw [hC]
  have T1 : Looks (model prog w) h1 (typeOf (.ref (h.objs.size + 1))) (.ref C) := (Looks.ld hget).andThen .now
  have T2 : Looks (model prog w) h1 (isSubtype (.ref C) (.ref C)) true := looks_mroIn X1 (by unfold mroIn; rw [hcls]; simp)
  have T3 : Looks (model prog w) h1 (typeLookup (.ref C) "__init__") (some (.ref fI)) := looks_findIn X1 hi
  have T4 : Looks (model prog w) h1 (bindSpecial (.ref fI) (.ref (h.objs.size + 1))) (.ref fI, [.ref (h.objs.size + 1)]) := bind_fn X1 _ (by show (K.lookup fI).map (·.cls) = _; rw [hI, ← hIt]; rfl)
  unfold isInstance callSpecial? specialOf
  repeat (first | with_reducible refine wpAny_call ?_ | lk)
  have hw : (Code.builtin "type.__call__" ⟨[.ref C, v1, v2], []⟩).weight = 1 := by rfl
  refine codeAny_call_cells (fd := fd) (body := qs.map (setSt n1)) (binds := [(n1, .ref (h.objs.size + 1)), (n2, v1), (n3, v2)]) (by show A.depth + (Code.builtin "type.__call__" ⟨[.ref C, v1, v2], []⟩).weight < _; rw [hw]; exact hroom) (X1 _ _ hI) hfd (hlim.keeps k1') (hcd.keeps k1') hbody (hbind _ _ _) hclo (fun x hx => .inl (hl x.1 ?_)) (fun s₁ x => ?_) hco hgen hk
  · simp only [List.mem_cons, List.not_mem_nil, or_false] at hx ⊢
    rcases hx with rfl | rfl | rfl <;> simp
  · obtain ⟨h2, tk2, rfl, k2⟩ := x.done
    generalize hE : callEnvC fd h1.objs.size fI = env at x ⊢
    have kind : ∀ y ∈ [n1, n2, n3], env.kindOf y = some .local := fun y hy => by rw [← hE]; exact hl y hy
    have hnd' := hnd
    simp only [List.nodup_cons, List.mem_cons, List.not_mem_nil, or_false, not_or, not_false_eq_true, List.nodup_nil, and_true] at hnd'
    obtain ⟨⟨d12, d13⟩, d23⟩ := hnd'
    have ms := bindL_get (kindOf := env.kindOf) (x := n1) (kind n1 (by simp)) [n1, n2, n3] [.ref (h.objs.size + 1), v1, v2] (fun _ => none) hnd
    have ns := x.toInCall.ns
    have hnf : ∀ vs, ({ cls := Value.ref C, dict := none, data := .fields #[.ref h.objs.size, .none, .none, .none, .bool false, .none] } : Obj).data ≠ .dict vs 0 := fun _ => by intro q; cases q
    have eL : h.objs.size + 1 ≠ env.locals := by
      intro q
      have := x.toInCall.fresh
      rw [← q] at this
      exact absurd (Heap.lt_size hget) (Nat.not_lt.mpr this)
    refine wpAny_mono (sets_run (K := K) (Rr := Rr) (e := h.objs.size + 1) (old := fun a => if a = h.objs.size + 1 then none else h2.get? a) (fun a o e => ?_) hcls rfl rfl hs (by rw [← hE]; exact hk) kind ?_ ?_ (fun hp on => ns.at' fun o e => ?_) qs _ (fun _ => none) [] ok ?_ Within.nil (by simp; omega) (fun h' tk mA x' => ?_)) (fun _ _ q => q) fun _ _ q => q
    · rw [if_neg fun q => ?_]
      · exact k2 _ _ (X1 _ _ e)
      · subst q
        have := X _ _ e
        exact absurd (Heap.lt_size this) (Nat.not_lt.mpr (Nat.le_succ _))
    · intro y hy
      have := bindL_get (kindOf := env.kindOf) (x := y) (kind y hy) [n1, n2, n3] [.ref (h.objs.size + 1), v1, v2] (fun _ => none) hnd
      have q : ∃ v, (([n1, n2, n3] : List Str).zip [Value.ref (h.objs.size + 1), v1, v2]).lookup y = some v := by
        simp only [List.zip_cons_cons, List.lookup_cons, List.zip_nil_right]
        simp only [List.mem_cons, List.not_mem_nil, or_false] at hy
        rcases hy with rfl | rfl | rfl
        · simp
        · split <;> simp
        · split
          · simp
          · split <;> simp
      obtain ⟨v, hv⟩ := q
      exact ⟨v, this.trans (by rw [hv]; rfl)⟩
    · exact ms.trans (by simp)
    · exact on _ _ ((if_neg (Ne.symm eL)).trans e)
    · refine ⟨fun a o e => ?_, if_pos rfl, excO C h.objs.size, h.objs.size, k2 _ _ hget, rfl, rfl, .inl ⟨rfl, fun _ => rfl⟩⟩
      split at e
      · cases e
      · exact e
    · obtain ⟨y1, y2, oe, T, y3, y4, y5, y6⟩ := x'
      have keep : Kept.on h.get? h' := fun a o e => y1 a o ((if_neg fun q => by
        subst q
        exact absurd (Heap.lt_size e) (Nat.not_lt.mpr (Nat.le_succ _))).trans (k2 _ _ (k1' _ _ e)))
      refine wpAny_pure (wpAny_pure (hq (h.objs.size + 1) h' tk mA ⟨keep, Heap.get?_none_of_le (Nat.le_succ _), oe, T, y3, y4, y5, ?_⟩))
      rcases y6 with y6 | ⟨dx, z1, z2, z3, z4⟩
      · exact .inl y6
      · refine .inr ⟨dx, z1, z2, none_of_keep (fun a o e => k2 _ _ (k1' _ _ e)) ((if_neg z2).symm.trans z3), z4⟩
end
end
section
set_option maxRecDepth 100000
set_option linter.unusedVariables false
section
variable {prog : Program} {w : World}

theorem raise_made {A : Around} {E : Value → Shared → Prop} {s : Shared} {K : Frag} {C Rr e : Addr} {old : Kept} {mA : Str → Option Value} {cd : ClassData} {Q : Flow → Shared → Prop} (X : K.In s.heap) (hc : clsIn K C = some cd) (hm : cd.mro = .ref C :: .ref Rr :: tailB) (ht : typeIn K (.ref C) = some (.type "type"))
    (x : EX old C e mA s.heap) (hh : A.handled = none) (h : E (.ref e) s) :
    wpAny (model prog w) A (do
      let y ← holding [] (excFromValue (.ref e) "exceptions must derive from BaseException")
      let y ← if ← isType (.ref e) then holding [y] (raisedFor (.ref e) y) else raisedInstance y
      setFlight y none
      raiseNew y : Sem Flow) Q E s := by
  obtain ⟨oe, od, I⟩ := x.inst
  obtain ⟨oe', T, h1, h2, h3, h4⟩ := x.obj
  have same := I.at_
  rw [h1] at same; cases same
  have nt : ∀ {Q' : Bool → Shared → Prop}, Q' false s → wpAny (model prog w) A (isType (.ref e)) Q' E s := by
    intro Q' hq
    simp only [isType, loadHead]
    refine wpAny_bind (wpAny_loadPart h1 ?_)
    rw [h3]; exact wpAny_pure hq
  have base : Looks (model prog w) s.heap (isInstance (.ref e) (.type "BaseException")) true := I.type.andThen (looks_mroIn X (by unfold mroIn; rw [hc, Option.bind_some, hm]; rfl))
  refine wpAny_bind (wpAny_holding ?_)
  unfold excFromValue isExcClass
  refine wpAny_bind (wpAny_bind (nt ?_))
  simp only [Bool.false_eq_true, if_false]
  refine wpAny_pure ?_
  simp only [Bool.false_eq_true, if_false]
  refine wpAny_bind (base.here ?_)
  simp only [if_true]
  refine wpAny_pure ?_
  refine wpAny_bind (nt ?_)
  simp only [Bool.false_eq_true, if_false]
  unfold raisedInstance
  refine wpAny_bind (wpAny_bind (I.type.here (wpAny_bind ((looks_typeIn X ht).here ?_))))
  try rw [if_pos (by simp)]
  refine wpAny_pure ?_
  unfold setFlight raiseNew
  refine wpAny_bind (wpAny_bind (wpAny_field h1 h3 (i := 1) (x := .none) rfl ?_))
  rw [if_neg (by decide)]
  refine wpAny_pure (wpAny_bind (wpAny_handled ?_))
  rw [hh]
  first
    | exact wpAny_throw h
    | exact wpAny_bind (wpAny_pure (wpAny_throw h))

theorem raiseOk {base : Heap} {K : Frag} {C Rr fI N : Addr} {nm q : Str} {bs sub : List Value} {k0 k1 k2 k3 k5 : Option Value} {oI : Obj} {fd : FuncData} {n1 n2 n3 : Str} {qs : List SetQ}
    (X : K.In base) (hlim : base.NoLimit) (hC : K.lookup C = some (clsO nm q C N Rr bs sub k0 k1 k2 k3 k5)) (hs : findIn K (.ref C) "__setattr__" = some (some (.builtin "object.__setattr__"))) (hi : findIn K (.ref C) "__init__" = some (some (.ref fI)))
    (hI : K.lookup fI = some oI) (hIt : oI.cls = .type "function") (hfd : oI.data = .func fd) (hcd : base.CodeRec fd.code fd.qualname) (hbody : fd.body = .stmts (qs.map (setSt n1))) (hclo : fd.closure = [])
    (hbind : ∀ a b c : Value, bindArgs fd ⟨[a, b, c], []⟩ = pure [(n1, a), (n2, b), (n3, c)]) (hl : ∀ x ∈ [n1, n2, n3], fd.scope.names.lookup x = some .local) (hnd : [n1, n2, n3].Nodup) (ok : setsOk K C n1 [n1, n2, n3] qs = true) (hbl : qs.length ≤ 900)
    (hco : fd.scope.isCoroutine = false) (hgen : fd.scope.isGenerator = false) (hk : fd.scope.kind = .function) : RaiseOk prog w C base := by
  intro A fr xb c np cpos pos args env s Q E hh hfr hdp hun hpl h
  have hcls : clsIn K C = some { name := nm, bases := bs, mro := .ref C :: .ref Rr :: tailB, ns := N, qualname := q, subclasses := sub } := by unfold clsIn; rw [hC]
  have ht : typeIn K (.ref C) = some (.type "type") := by show (K.lookup C).map (·.cls) = _; rw [hC]; rfl
  rw [arm_exec_Raise]
  refine wpAny_bind (wpAny_standAt ?_)
  show wpAny _ _ (raiseStmt env (some (do let v ← eval (.Call (.Name c np) args [] cpos) env; standAt pos; pure v)) none) Q E s
  unfold raiseStmt
  dsimp only
  refine wpAny_bind (wpAny_bind (wpAny_Call_ofName (wpAny_mono h (fun f s₁ h₁ => ?_) fun _ _ x => x)))
  obtain ⟨rfl, h₁⟩ := h₁
  unfold callWith
  refine wpAny_bind (wpAny_holding (wpAny_mono h₁ (fun a s₂ h₂ => wpAny_bind (wpAny_standAt ?_)) fun _ _ x => x))
  obtain ⟨v₁, v₂, rfl, hb, hxb, hff, hE⟩ := h₂
  obtain ⟨hp, g, d, tk, os⟩ := s₂
  dsimp only at hb hxb hff
  have X' : K.In hp := X.keeps hb
  simp only [hpl]
  refine wpAny_bind (wpAny_keeperOf_exc (X' _ _ hC) ?_)
  refine wpAny_bind (glue X' (hlim.keeps hb) hC hs hi hI hIt hfd (hcd.keeps hb) hbody hclo hbind hl hnd ok hbl hco hgen hk hdp fun e h' tk' mA x => wpAny_bind (wpAny_holding (wpAny_point (wpAny_pure ?_))))
  refine wpAny_bind (wpAny_standAt (wpAny_pure ?_))
  refine wpAny_bind (wpAny_pure ?_)
  have hE' : E (.ref e) ⟨h', g, d, tk', os⟩ := by
    refine hE e h' tk' ⟨fun a o q => x.keep a o (hxb a o q), none_of_keep hxb x.new, hff.of_keeps fun b o q _ => ⟨o, x.keep b o q, rfl⟩, ?_⟩ fun a o q => x.keep a o q
    obtain ⟨oe, T, y1, y2, y3, _⟩ := x.obj
    exact ⟨oe, _, .ref T, y1, y2, y3, rfl, rfl⟩
  exact raise_made (s := ⟨h', g, d, tk', os⟩) (X'.keeps x.keep) hcls rfl ht x hh hE'
end
end
section
theorem ofStr_inj (a b : String) : (Str.ofString a = Str.ofString b) = (a = b) := by
  apply propext
  constructor
  · intro h
    rw [Str.ofString_eq_toList, Str.ofString_eq_toList] at h
    have h2 := congrArg (fun x : Str => x.cps.toList) h
    simp only at h2
    have inj : ∀ {l m : List Char}, l.map Char.toNat = m.map Char.toNat → l = m := by
      intro l
      induction l with
      | nil => intro m h; cases m with | nil => rfl | cons _ _ => simp at h
      | cons c l ih =>
        intro m h
        cases m with
        | nil => simp at h
        | cons d m =>
          simp only [List.map_cons, List.cons.injEq] at h
          have hc : c = d := by
            apply Char.ext
            exact UInt32.toNat_inj.mp h.1
          rw [hc, ih h.2]
    exact String.toList_inj.mp (inj h2)
  · intro h; rw [h]
theorem ofStr_beq (a b : String) : (Str.ofString a == Str.ofString b) = (a == b) := by
  rw [Bool.eq_iff_iff, beq_iff_eq, beq_iff_eq, ofStr_inj]
noncomputable def emp : Vars := fun _ => none
theorem emp_app (x : Str) : emp x = none := rfl
theorem bindV_nil : bindV [] [] = emp := by funext x; rfl
theorem bindV_cons (n : Str) (ns : List Str) (d : PyData) (ds : List PyData) : bindV (n :: ns) (d :: ds) = (bindV ns ds).set n d false := by
  funext x
  unfold bindV Vars.set
  rw [List.zip_cons_cons, List.lookup_cons]
  by_cases h : x = n
  · subst h; simp
  · have : (x == n) = false := by simpa using h
    rw [this, if_neg h]
theorem set_app (Γ : Vars) (x y : Str) (d : PyData) (o : Bool) : (Γ.set x d o) y = if y = x then some (d, o) else Γ y := rfl
theorem freeze_nil (Γ : Vars) : Γ.freeze [] = Γ := by funext y; simp [Vars.freeze]
theorem freeze_app (Γ : Vars) (x : Str) (xs : List Str) (y : Str) : (Γ.freeze (x :: xs)) y = if y ∈ x :: xs then (Γ y).map (fun p => (p.1, false)) else Γ y := rfl
end
section
set_option maxRecDepth 100000
noncomputable def fnAt (i : Nat) : Option FuncData := match stmtAt i with
  | .FunctionDef n a b _ _ _ sc _ _ _ => some { name := n, qualname := n, params := a, body := .stmts b, scope := sc, globals := mainGlobals, closure := [], defaults := .none, kwdefaults := .none, doc := .none, pyModule := .none, code := .none, builtins := builtinsNs }
  | _ => none
noncomputable def F_is_branch : {fd : FuncData // fnAt 25 = some fd} := by
  refine ⟨?b, ?h⟩
  case h => conv => lhs; whnf
noncomputable def F_prefix_goal : {fd : FuncData // fnAt 26 = some fd} := by
  refine ⟨?b, ?h⟩
  case h => conv => lhs; whnf
noncomputable def F_clause_edges : {fd : FuncData // fnAt 28 = some fd} := by
  refine ⟨?b, ?h⟩
  case h => conv => lhs; whnf
noncomputable def F_check_edges : {fd : FuncData // fnAt 29 = some fd} := by
  refine ⟨?b, ?h⟩
  case h => conv => lhs; whnf
noncomputable def F_new_places : {fd : FuncData // fnAt 30 = some fd} := by
  refine ⟨?b, ?h⟩
  case h => conv => lhs; whnf
noncomputable def F_move_targets : {fd : FuncData // fnAt 31 = some fd} := by
  refine ⟨?b, ?h⟩
  case h => conv => lhs; whnf
noncomputable def F_move_clause : {fd : FuncData // fnAt 32 = some fd} := by
  refine ⟨?b, ?h⟩
  case h => conv => lhs; whnf
noncomputable def F_keep_only : {fd : FuncData // fnAt 33 = some fd} := by
  refine ⟨?b, ?h⟩
  case h => conv => lhs; whnf
noncomputable def F_region_key : {fd : FuncData // fnAt 34 = some fd} := by
  refine ⟨?b, ?h⟩
  case h => conv => lhs; whnf
noncomputable def F_chain_end : {fd : FuncData // fnAt 35 = some fd} := by
  refine ⟨?b, ?h⟩
  case h => conv => lhs; whnf
noncomputable def F_checked_goal : {fd : FuncData // fnAt 36 = some fd} := by
  refine ⟨?b, ?h⟩
  case h => conv => lhs; whnf
noncomputable def F_thread_one : {fd : FuncData // fnAt 37 = some fd} := by
  refine ⟨?b, ?h⟩
  case h => conv => lhs; whnf
noncomputable def F_is_edge : {fd : FuncData // fnAt 38 = some fd} := by
  refine ⟨?b, ?h⟩
  case h => conv => lhs; whnf
noncomputable def F_thread_in : {fd : FuncData // fnAt 39 = some fd} := by
  refine ⟨?b, ?h⟩
  case h => conv => lhs; whnf
noncomputable def F_thread_round : {fd : FuncData // fnAt 40 = some fd} := by
  refine ⟨?b, ?h⟩
  case h => conv => lhs; whnf
noncomputable def F_law_goal : {fd : FuncData // fnAt 42 = some fd} := by
  refine ⟨?b, ?h⟩
  case h => conv => lhs; whnf
noncomputable def F_law_row : {fd : FuncData // fnAt 43 = some fd} := by
  refine ⟨?b, ?h⟩
  case h => conv => lhs; whnf
noncomputable def F_law_clauses : {fd : FuncData // fnAt 44 = some fd} := by
  refine ⟨?b, ?h⟩
  case h => conv => lhs; whnf
noncomputable def F_law_goals : {fd : FuncData // fnAt 45 = some fd} := by
  refine ⟨?b, ?h⟩
  case h => conv => lhs; whnf
noncomputable def F_law_edges : {fd : FuncData // fnAt 46 = some fd} := by
  refine ⟨?b, ?h⟩
  case h => conv => lhs; whnf
noncomputable def F_law_good : {fd : FuncData // fnAt 47 = some fd} := by
  refine ⟨?b, ?h⟩
  case h => conv => lhs; whnf
noncomputable def F_law_parts : {fd : FuncData // fnAt 48 = some fd} := by
  refine ⟨?b, ?h⟩
  case h => conv => lhs; whnf
noncomputable def F_law_behind : {fd : FuncData // fnAt 49 = some fd} := by
  refine ⟨?b, ?h⟩
  case h => conv => lhs; whnf
noncomputable def F_law_end : {fd : FuncData // fnAt 50 = some fd} := by
  refine ⟨?b, ?h⟩
  case h => conv => lhs; whnf
noncomputable def F_law_round : {fd : FuncData // fnAt 51 = some fd} := by
  refine ⟨?b, ?h⟩
  case h => conv => lhs; whnf
noncomputable def F_law_threaded : {fd : FuncData // fnAt 52 = some fd} := by
  refine ⟨?b, ?h⟩
  case h => conv => lhs; whnf
noncomputable def F_law : {fd : FuncData // fnAt 53 = some fd} := by
  refine ⟨?b, ?h⟩
  case h => conv => lhs; whnf
end
section
set_option maxRecDepth 100000
set_option linter.unusedVariables false
noncomputable def bodyOf (fd : FuncData) : List Stmt := match fd.body with | .stmts b => b | _ => []
noncomputable def fuel : Nat := 60
/-- the rows at which the frame's own lists close -/
noncomputable def frz (l : Nat) : List Str :=
  if l = 61 then ["out"] else if l = 85 then ["out", "edges"] else if l = 143 then ["rows", "kept"] else if l = 178 then ["out"] else if l = 188 then ["out"] else if l = 189 then ["out"] else
  if l = 229 then ["stay", "out"] else if l = 235 then ["goals"] else if l = 252 then ["rows", "edges"] else if l = 259 then ["code"] else []

section
variable {T : Tab} {fz : Nat → List Str} {n : Nat} {sc : Scope} {Γ Γ' : Vars} {st : Stmt} {r : List Stmt} {o : Out} {d : PyData} {pos : Pos}
theorem exs_nxt (h : ex T fz n sc Γ st = .nxt Γ') (k : exs T fz n sc Γ' r = o) : exs T fz (n + 1) sc Γ (st :: r) = o := by
  show (ex T fz n sc Γ st).andThen (fun Γ' => exs T fz n sc Γ' r) = o
  rw [h]; exact k
theorem exs_ret (h : ex T fz n sc Γ st = .ret d) : exs T fz (n + 1) sc Γ (st :: r) = .ret d := by
  show (ex T fz n sc Γ st).andThen (fun Γ' => exs T fz n sc Γ' r) = .ret d
  rw [h]; rfl
theorem exs_exc (h : ex T fz n sc Γ st = .exc) : exs T fz (n + 1) sc Γ (st :: r) = .exc := by
  show (ex T fz n sc Γ st).andThen (fun Γ' => exs T fz n sc Γ' r) = .exc
  rw [h]; rfl
theorem exs_nil : exs T fz (n + 1) sc Γ [] = .nxt Γ := rfl
theorem exs_one (h : ex T fz n sc Γ st = o) (hn : n ≠ 0) : exs T fz (n + 1) sc Γ [st] = o := by
  obtain ⟨n, rfl⟩ := Nat.exists_eq_succ_of_ne_zero hn
  show (ex T fz (n + 1) sc Γ st).andThen (fun Γ' => exs T fz (n + 1) sc Γ' []) = o
  rw [h]; cases o <;> rfl
theorem eif {t : Expr} {b e : List Stmt} {c : Bool} (hz : fz pos.line = []) (h : evT T n sc Γ t = .ok c) (k : (if c then exs T fz n sc Γ b else exs T fz n sc Γ e) = o) : ex T fz (n + 1) sc Γ (.If t b e pos) = o := by
  show Out.of (evT T n sc (Γ.freeze (fz pos.line)) t) (fun c => if c then exs T fz n sc (Γ.freeze (fz pos.line)) b else exs T fz n sc (Γ.freeze (fz pos.line)) e) = o
  rw [hz, freeze_nil, h]; exact k
theorem eif_t {t : Expr} {b e : List Stmt} (hz : fz pos.line = []) (h : evT T n sc Γ t = .ok true) (k : exs T fz n sc Γ b = o) : ex T fz (n + 1) sc Γ (.If t b e pos) = o := eif hz h k
theorem eif_f {t : Expr} {b e : List Stmt} (hz : fz pos.line = []) (h : evT T n sc Γ t = .ok false) (k : exs T fz n sc Γ e = o) : ex T fz (n + 1) sc Γ (.If t b e pos) = o := eif hz h k
theorem efor {x : Str} {p : Pos} {it : Expr} {b : List Stmt} {ds : List PyData} (hz : fz pos.line = []) (hx : storable sc x = true) (h : evFor T n sc Γ it = .ok ds) (k : forL (fun Γ => exs T fz n sc Γ b) x ds Γ = o) : ex T fz (n + 1) sc Γ (.For (.Name x p) it b [] pos) = o := by
  show (if storable sc x = true then Out.of (evFor T n sc (Γ.freeze (fz pos.line)) it) (fun ds => forL (fun Γ => exs T fz n sc Γ b) x ds (Γ.freeze (fz pos.line))) else .bad) = o
  rw [hz, freeze_nil, if_pos hx, h]; exact k
theorem ewhile {t : Expr} {b : List Stmt} (hz : fz pos.line = []) (k : whileL (fun Γ => evT T n sc Γ t) (fun Γ => exs T fz n sc Γ b) turns Γ = o) : ex T fz (n + 1) sc Γ (.While t b [] pos) = o := by
  show whileL (fun Γ => evT T n sc Γ t) (fun Γ => exs T fz n sc Γ b) turns (Γ.freeze (fz pos.line)) = o
  rw [hz, freeze_nil]; exact k
theorem run_ret {names : List Str} {body : List Stmt} {ds : List PyData} (hl : names.length = ds.length) (h : exs T fz n sc (bindV names ds) body = .ret d) : runDef T fz n sc names body ds = .ok d := by simp only [runDef, hl, if_true, h]
theorem run_nxt {names : List Str} {body : List Stmt} {ds : List PyData} (hl : names.length = ds.length) (h : exs T fz n sc (bindV names ds) body = .nxt Γ') : runDef T fz n sc names body ds = .ok .none := by simp only [runDef, hl, if_true, h]
theorem run_exc {names : List Str} {body : List Stmt} {ds : List PyData} (hl : names.length = ds.length) (h : exs T fz n sc (bindV names ds) body = .exc) : runDef T fz n sc names body ds = .exc := by simp only [runDef, hl, if_true, h]

theorem forL_ind (b : Vars → Out) (x : Str) (I : Nat → Vars → Prop) : ∀ (ds : List PyData) (k0 : Nat) (Γ : Vars), I k0 Γ → (∀ k d Γ, ds[k]? = some d → I (k0 + k) Γ → ∃ Γ', b (Γ.set x d false) = .nxt Γ' ∧ I (k0 + k + 1) Γ') → ∃ Γ', forL b x ds Γ = .nxt Γ' ∧ I (k0 + ds.length) Γ'
  | [], k0, Γ, h, _ => ⟨Γ, rfl, h⟩
  | d :: ds, k0, Γ, h, step => by
    obtain ⟨Γ1, e1, i1⟩ := step 0 d Γ rfl h
    obtain ⟨Γ2, e2, i2⟩ := forL_ind b x I ds (k0 + 1) Γ1 i1 fun k d' Γ' hk hI => by
      have q : k0 + (k + 1) = k0 + 1 + k := by omega
      obtain ⟨Γ3, e3, i3⟩ := step (k + 1) d' Γ' (by simpa using hk) (q ▸ hI)
      exact ⟨Γ3, e3, q ▸ i3⟩
    refine ⟨Γ2, ?_, ?_⟩
    · simp only [forL, e1, Out.andThen_nxt, e2]
    · have q : k0 + (ds.length + 1) = k0 + 1 + ds.length := by omega
      rw [List.length_cons, q]; exact i2
/-- a loop that may leave early, each time with the same -/
theorem forL_any (b : Vars → Out) (x : Str) (I : Vars → Prop) (P : PyData → Bool) (o : Out) (ho : ∀ Γ, o ≠ .nxt Γ) : ∀ (ds : List PyData) (Γ : Vars), I Γ → (∀ d ∈ ds, ∀ Γ, I Γ → P d = false → ∃ Γ', b (Γ.set x d false) = .nxt Γ' ∧ I Γ') → (∀ d ∈ ds, ∀ Γ, I Γ → P d = true → b (Γ.set x d false) = o) →
    if ds.any P then forL b x ds Γ = o else ∃ Γ', forL b x ds Γ = .nxt Γ' ∧ I Γ'
  | [], Γ, h, _, _ => ⟨Γ, rfl, h⟩
  | d :: ds, Γ, h, s1, s2 => by
    cases hp : P d with
    | true =>
      have e := s2 d (by simp) Γ h hp
      simp only [List.any_cons, hp, Bool.true_or, if_true, forL, e]
      cases o <;> first | rfl | exact absurd rfl (ho _)
    | false =>
      obtain ⟨Γ1, e1, i1⟩ := s1 d (by simp) Γ h hp
      have ih := forL_any b x I P o ho ds Γ1 i1 (fun d hd => s1 d (by simp [hd])) (fun d hd => s2 d (by simp [hd]))
      simp only [List.any_cons, hp, Bool.false_or, forL, e1, Out.andThen_nxt]
      exact ih
end

theorem orAnd : (BoolOp.Or == BoolOp.And) = false := rfl
theorem andAnd : (BoolOp.And == BoolOp.And) = true := rfl
theorem globB : ((some NameKind.globalImplicit : Option NameKind) == some NameKind.globalImplicit) = true := rfl
theorem idx_tup (xs : List PyData) (k : Int) : index (.tuple xs) (.int k) = if 0 ≤ k then (match xs[k.toNat]? with | some d => .ok d | none => .bad) else .bad := rfl
theorem idx_list {xs : List PyData} {k : Nat} {d : PyData} (h : xs[k]? = some d) : index (.list xs) (.int (k : Int)) = .ok d := by
  unfold index
  simp [h]
theorem binop_add (a b : Int) : binop .Add (.int a) (.int b) = .ok (.int (a + b)) := rfl
theorem cmp1i (a b : Int) : cmp1 .Eq (.int a) (.int b) = .ok (a == b) := rfl
theorem cmp1in (x : PyData) (xs : List PyData) : cmp1 .In x (.list xs) = memD x xs := rfl
theorem cmpne (a b : Int) : cmp1 .NotEq (.int a) (.int b) = .ok (a != b) := rfl
theorem cmplt (a b : Int) : cmp1 .Lt (.int a) (.int b) = .ok (decide (a < b)) := rfl
theorem cmpge (a b : Int) : cmp1 .GtE (.int a) (.int b) = .ok (decide (a ≥ b)) := rfl
theorem cmpgt (a b : Int) : cmp1 .Gt (.int a) (.int b) = .ok (decide (a > b)) := rfl
theorem binop_sub (a b : Int) : binop .Sub (.int a) (.int b) = .ok (.int (a - b)) := rfl
theorem cmple (a b : Int) : cmp1 .LtE (.int a) (.int b) = .ok (decide (a ≤ b)) := rfl
theorem cmpint (x : PyData) (xs : List PyData) : cmp1 .In x (.tuple xs) = memD x xs := rfl
structure Cl where
  s : Int
  a : Int
  b : Int
  c : Int
  d : Int
  e : Int
noncomputable def cl (k : Cl) : PyData := .tuple [.int k.s, .int k.a, .int k.b, .int k.c, .int k.d, .int k.e]
noncomputable def il (l : List Int) : List PyData := l.map .int
inductive Row where
  | sw (ts : List Int)
  | pl (op n : Int)
noncomputable def row : Row → PyData
  | .sw ts => .tuple [.int 69, .tuple (il ts)]
  | .pl op n => .tuple [.int op, .int n]
noncomputable def Row.op : Row → Int
  | .sw _ => 69
  | .pl op _ => op
noncomputable def cls (cs : List Cl) : PyData := .list (cs.map cl)
noncomputable def rws (rs : List Row) : PyData := .list (rs.map row)
end
section
set_option maxRecDepth 100000
set_option linter.unusedVariables false
/-! one lemma a node of the text: the solver behind simp_arith -/
noncomputable def isSlc (e : Expr) : Bool := by
  cases e with
  | Slice => exact true
  | _ => exact false
noncomputable def isNm (e : Expr) : Bool := by
  cases e with
  | Name => exact true
  | _ => exact false
noncomputable def tPlain (e : Expr) : Bool := by
  cases e with
  | UnaryOp => exact false
  | BoolOp => exact false
  | Compare => exact false
  | IfExp => exact false
  | Name => exact false
  | _ => exact true
noncomputable def iPlain (e : Expr) : Bool := by
  cases e with
  | Call => exact false
  | Name => exact false
  | _ => exact true
noncomputable def aPlain (e : Expr) : Bool := by
  cases e with
  | List es => exact !es.isEmpty
  | Dict => exact false
  | ListComp => exact false
  | SetComp => exact false
  | DictComp => exact false
  | Set => exact false
  | _ => exact true
section
variable {T : Tab} {fz : Nat → List Str} {n : Nat} {sc csc : Scope} {Γ Γ' : Vars} {e l r t : Expr} {es : List Expr} {p q : Pos} {d a b k : PyData} {ds xs : List PyData} {o : Res PyData} {ob : Res Bool} {x y : Str} {i j : Int} {w w' u : Bool}
-- names in a frame
theorem set_eq : (Γ.set x d w) x = some (d, w) := by rw [set_app, if_pos rfl]
theorem set_ne {v : Option (PyData × Bool)} (h : (x == y) = false) (k : Γ x = v) : (Γ.set y d w) x = v := by rw [set_app, if_neg (by simpa using h)]; exact k
theorem nm_ne {x y : Str} (h : (x == y) = false) : x ≠ y := by simpa using h
theorem al {y : Str} {Γ2 : Vars} {v : Option (PyData × Bool)} (h : ∀ z, z ≠ y → Γ z = Γ2 z) (hx : (x == y) = false) (k : Γ2 x = v) : Γ x = v := (h x (nm_ne hx)).trans k
theorem emp_eq : emp x = none := rfl
theorem fr_in {zs : List Str} (hm : zs.contains x = true) (h : Γ x = some (d, w)) : (Γ.freeze zs) x = some (d, false) := by
  unfold Vars.freeze; rw [if_pos (by simpa using hm), h]; rfl
theorem fr_out {zs : List Str} {v : Option (PyData × Bool)} (hm : zs.contains x = false) (h : Γ x = v) : (Γ.freeze zs) x = v := by
  unfold Vars.freeze; rw [if_neg (by simpa using hm), h]
theorem fr_none {zs : List Str} (h : Γ x = none) : (Γ.freeze zs) x = none := by
  unfold Vars.freeze; rw [h]; simp
theorem on_in {v : Option (PyData × Bool)} (hm : (csc.names.lookup x == some .free) = true) (h : Γ x = v) : (Γ.only csc) x = v := by
  unfold Vars.only; rw [if_pos (by simpa using hm), h]
theorem on_out (hm : (csc.names.lookup x == some .free) = false) : (Γ.only csc) x = none := by
  unfold Vars.only; rw [if_neg (by simpa using hm)]

theorem bnd {α β : Type} {r : Res α} {a : α} {f : α → Res β} {o : Res β} (h : r = .ok a) (k : f a = o) : r.bind f = o := by rw [h]; exact k
theorem bndx {α β : Type} {r : Res α} {f : α → Res β} (h : r = .exc) : r.bind f = .exc := by rw [h]; rfl
theorem grd {α : Type} {b : Bool} {r o : Res α} (h : b = true) (k : r = o) : Res.guard b r = o := by rw [h]; exact k
theorem otf {α : Type} {r : Res α} {a : α} {f : α → Out} {o : Out} (h : r = .ok a) (k : f a = o) : Out.of r f = o := by rw [h]; exact k
theorem otfx {α : Type} {r : Res α} {f : α → Out} (h : r = .exc) : Out.of r f = .exc := by rw [h]; rfl
noncomputable def andS (b : Bool) (X : Res Bool) : Res Bool := if b then X else .ok false
noncomputable def orS (b : Bool) (X : Res Bool) : Res Bool := if b then .ok true else X
theorem and_t {X o : Res Bool} (h : w = true) (k : X = o) : andS w X = o := by rw [h]; exact k
theorem and_f {X : Res Bool} (h : w = false) : andS w X = .ok false := by rw [h]; rfl
theorem and_w {X : Res Bool} (k : X = .ok true) : andS w X = .ok w := by cases w <;> first | exact k | rfl
theorem and_s {X : Res Bool} (k : X = .ok w') : andS w X = .ok (w && w') := by cases w <;> first | exact k | rfl
theorem or_w {X : Res Bool} (k : X = .ok false) : orS w X = .ok w := by cases w <;> first | exact k | rfl
theorem or_f {X o : Res Bool} (h : w = false) (k : X = o) : orS w X = o := by rw [h]; exact k
theorem or_t {X : Res Bool} (h : w = true) : orS w X = .ok true := by rw [h]; rfl
-- expressions
theorem v_int {z : Nat} : ev T (n + 1) sc Γ (.Constant (.int i) z p) = .ok (.int i) := rfl
theorem v_non {z : Nat} : ev T (n + 1) sc Γ (.Constant .none z p) = .ok .none := rfl
theorem v_bool {z : Nat} : ev T (n + 1) sc Γ (.Constant (.bool w) z p) = .ok (.bool w) := rfl
theorem v_str {z : Nat} : ev T (n + 1) sc Γ (.Constant (.str x) z p) = .ok (.str x) := rfl
theorem v_name (h : Γ x = some (d, false)) : ev T (n + 1) sc Γ (.Name x p) = .ok d := by
  show evName T sc Γ x = _
  unfold evName; rw [h]
theorem v_glob (h : Γ x = none) (hg : isGlob sc x = true) (hc : T.consts x = some i) : ev T (n + 1) sc Γ (.Name x p) = .ok (.int i) := by
  show evName T sc Γ x = _
  unfold evName; rw [h, hg, hc]; rfl
theorem v_bin {op : Operator} (h1 : ev T n sc Γ l = .ok a) (h2 : ev T n sc Γ r = .ok b) (h3 : binop op a b = o) : ev T (n + 1) sc Γ (.BinOp l op r p) = o := bnd h1 (bnd h2 h3)
theorem v_usub (h : ev T n sc Γ e = .ok (.int i)) : ev T (n + 1) sc Γ (.UnaryOp .USub e p) = .ok (.int (-i)) := bnd h rfl
theorem v_not (h : evB T n sc Γ e = .ok a) (h2 : truth a = .ok w) : ev T (n + 1) sc Γ (.UnaryOp .Not e p) = .ok (.bool (!w)) := bnd h (bnd h2 rfl)
noncomputable def ifS (c : Bool) (X Y : Res PyData) : Res PyData := if c then X else Y
theorem if_tt {X Y : Res PyData} (h : w = true) (k : X = o) : ifS w X Y = o := by rw [h]; exact k
theorem if_ff {X Y : Res PyData} (h : w = false) (k : Y = o) : ifS w X Y = o := by rw [h]; exact k
theorem v_if (h : evT T n sc Γ t = .ok w) (k : ifS w (ev T n sc Γ l) (ev T n sc Γ r) = o) : ev T (n + 1) sc Γ (.IfExp t l r p) = o := bnd h k
theorem v_cmp {ops : List CmpOp} (h : ev T n sc Γ l = .ok a) (h2 : evChain T n sc Γ a ops es = .ok w) : ev T (n + 1) sc Γ (.Compare l ops es p) = .ok (.bool w) := bnd h (bnd h2 rfl)
theorem v_tup {z : Nat} (h : evs T n sc Γ es = .ok ds) (hl : decide (ds.length ≤ szMax) = true) : ev T (n + 1) sc Γ (.Tuple es z p) = .ok (.tuple ds) := bnd h (grd hl rfl)
theorem v_list (h : evs T n sc Γ es = .ok ds) (hl : decide (ds.length ≤ szMax) = true) : ev T (n + 1) sc Γ (.List es p) = .ok (.list ds) := bnd h (grd hl rfl)
theorem v_sub (hs : isSlc r = false) (h1 : evB T n sc Γ l = .ok a) (h2 : ev T n sc Γ r = .ok k) (h3 : index a k = o) : ev T (n + 1) sc Γ (.Subscript l r p) = o := by
  cases r <;> first | exact bnd h1 (bnd h2 h3) | cases hs
theorem v_slc {z1 z2 : Nat} {p1 p2 p3 : Pos} (h1 : evB T n sc Γ l = .ok a) (h2 : slice a i j = o) : ev T (n + 1) sc Γ (.Subscript l (.Slice (some (.Constant (.int i) z1 p1)) (some (.Constant (.int j) z2 p2)) none p3) p) = o := bnd h1 h2
theorem v_comp {gens : List Comprehension} (h : evComp T n sc Γ e gens csc = .ok ds) : ev T (n + 1) sc Γ (.ListComp e gens csc p) = .ok (.list ds) := bnd h rfl
theorem v_call (h : Γ x = none) (hg : isGlob sc x = true) (k : evCall T n sc Γ x es = o) : ev T (n + 1) sc Γ (.Call (.Name x q) es [] p) = o := by
  show (match Γ x with | some _ => Res.bad | none => Res.guard (isGlob sc x) (evCall T n sc Γ x es)) = o
  rw [h, hg]; exact k
theorem v_get {p1 p2 : Pos} (hg : isGlob sc "OP_SORT" = true) (hn : Γ "OP_SORT" = none) (hs : (p2.endLine == p.line && [l, r].all notStar) = true) (h1 : ev T n sc Γ l = .ok (.int i)) (h2 : ev T n sc Γ r = .ok (.int j)) :
    ev T (n + 1) sc Γ (.Call (.Attribute (.Name "OP_SORT" p1) "get" p2) [l, r] [] p) = .ok (.int ((T.sorts.lookup i).getD j)) := by
  simp only [Bool.and_eq_true] at hs
  refine grd ?_ (bnd h1 (bnd h2 rfl))
  rw [hg, hn, hs.1, hs.2]; rfl
noncomputable def andV (b : Bool) (d : PyData) (X : Res PyData) : Res PyData := if b then X else .ok d
noncomputable def orV (b : Bool) (d : PyData) (X : Res PyData) : Res PyData := if b then .ok d else X
theorem andv_t {X : Res PyData} (h : w = true) (k : X = o) : andV w d X = o := by rw [h]; exact k
theorem andv_f {X : Res PyData} (h : w = false) : andV w d X = .ok d := by rw [h]; rfl
theorem andv_s {X : Res PyData} (k : X = .ok (.bool w')) : andV w (.bool w) X = .ok (.bool (w && w')) := by cases w <;> first | exact k | rfl
theorem orv_f {X : Res PyData} (h : w = false) (k : X = o) : orV w d X = o := by rw [h]; exact k
theorem orv_t {X : Res PyData} (h : w = true) : orV w d X = .ok d := by rw [h]; rfl
theorem w_one {op : BoolOp} (h : ev T n sc Γ e = o) : evBool T (n + 1) sc Γ op [e] = o := h
theorem w_and (h : ev T n sc Γ e = .ok d) (ht : truth d = .ok w) (k : andV w d (evBool T n sc Γ .And (r :: es)) = o) : evBool T (n + 1) sc Γ .And (e :: r :: es) = o := bnd h (bnd ht (by cases w <;> exact k))
theorem w_or (h : ev T n sc Γ e = .ok d) (ht : truth d = .ok w) (k : orV w d (evBool T n sc Γ .Or (r :: es)) = o) : evBool T (n + 1) sc Γ .Or (e :: r :: es) = o := bnd h (bnd ht (by cases w <;> exact k))
theorem v_or1 {op : BoolOp} (k : evBool T n sc Γ op es = o) : ev T (n + 1) sc Γ (.BoolOp op es p) = o := k
-- a value that is not kept
theorem b_name (h : Γ x = some (d, w)) : evB T (n + 1) sc Γ (.Name x p) = .ok d := by
  show (match Γ x with | some (d, _) => Res.ok d | none => ev T n sc Γ (.Name x p)) = _
  rw [h]
theorem b_glob (h : Γ x = none) (hg : isGlob sc x = true) (hc : T.consts x = some i) : evB T (n + 2) sc Γ (.Name x p) = .ok (.int i) := by
  show (match Γ x with | some (d, _) => Res.ok d | none => ev T (n + 1) sc Γ (.Name x p)) = _
  have := v_glob (n := n) (p := p) h hg hc
  rw [h]; exact this
theorem b_else (hs : isNm e = false) (k : ev T n sc Γ e = o) : evB T (n + 1) sc Γ e = o := by
  cases e <;> first | exact k | cases hs
theorem s_nil : evs T (n + 1) sc Γ [] = .ok [] := rfl
theorem s_cons (h : ev T n sc Γ e = .ok d) (k : evs T n sc Γ es = .ok ds) : evs T (n + 1) sc Γ (e :: es) = .ok (d :: ds) := bnd h (bnd k rfl)
theorem s_excr (h : ev T n sc Γ e = .ok d) (k : evs T n sc Γ es = .exc) : evs T (n + 1) sc Γ (e :: es) = .exc := bnd h (bndx k)
theorem v_tupx {z : Nat} (h : evs T n sc Γ es = .exc) : ev T (n + 1) sc Γ (.Tuple es z p) = .exc := bndx h
theorem s_exc (h : ev T n sc Γ e = .exc) : evs T (n + 1) sc Γ (e :: es) = .exc := bndx h
-- tests
theorem t_not (h : evT T n sc Γ e = .ok w) : evT T (n + 1) sc Γ (.UnaryOp .Not e p) = .ok (!w) := bnd h rfl
theorem t_all {op : BoolOp} (k : evAll T n sc Γ op es = ob) : evT T (n + 1) sc Γ (.BoolOp op es p) = ob := k
theorem t_cmp {ops : List CmpOp} (h : ev T n sc Γ l = .ok a) (k : evChain T n sc Γ a ops es = ob) : evT T (n + 1) sc Γ (.Compare l ops es p) = ob := bnd h k
theorem t_name (h : Γ x = some (d, w)) (k : truth d = ob) : evT T (n + 2) sc Γ (.Name x p) = ob := bnd (b_name h) k
theorem t_else (hs : tPlain e = true) (h : ev T n sc Γ e = .ok d) (k : truth d = ob) : evT T (n + 2) sc Γ e = ob := by
  cases e <;> first | exact bnd (b_else rfl h) k | cases hs
theorem a_nila : evAll T (n + 1) sc Γ .And [] = .ok true := rfl
theorem a_nilo : evAll T (n + 1) sc Γ .Or [] = .ok false := rfl
theorem a_and (h : evT T n sc Γ e = .ok w) (k : andS w (evAll T n sc Γ .And es) = ob) : evAll T (n + 1) sc Γ .And (e :: es) = ob := bnd h (by cases w <;> exact k)
theorem a_or (h : evT T n sc Γ e = .ok w) (k : orS w (evAll T n sc Γ .Or es) = ob) : evAll T (n + 1) sc Γ .Or (e :: es) = ob := bnd h (by cases w <;> exact k)
theorem h_one {op : CmpOp} (h : evB T n sc Γ e = .ok b) (k : cmp1 op a b = ob) : evChain T (n + 1) sc Γ a [op] [e] = ob := bnd h k
theorem h_two {op op' : CmpOp} {ops : List CmpOp} (h : ev T n sc Γ e = .ok b) (k : cmp1 op a b = .ok w) (m : andS w (evChain T n sc Γ b (op' :: ops) es) = ob) : evChain T (n + 1) sc Γ a (op :: op' :: ops) (e :: es) = ob := bnd h (bnd k m)
-- calls
theorem c_fun {φ : List PyData → Res PyData} (hf : T.funs x = some φ) (hs : (es.all notStar && !es.isEmpty && !builtinNames.contains x) = true) (h : evs T n sc Γ es = .ok ds) (k : φ ds = o) : evCall T (n + 1) sc Γ x es = o := by
  simp only [Bool.and_eq_true, Bool.not_eq_true'] at hs
  have hb : ¬ x ∈ builtinNames := by simpa using hs.2
  refine grd (by rw [hs.1.1, hs.1.2]; rfl) ?_
  rw [if_neg hb, hf]; exact bnd h k
theorem c_funx {φ : List PyData → Res PyData} (hf : T.funs x = some φ) (hs : (es.all notStar && !es.isEmpty && !builtinNames.contains x) = true) (h : evs T n sc Γ es = .exc) : evCall T (n + 1) sc Γ x es = .exc := by
  simp only [Bool.and_eq_true, Bool.not_eq_true'] at hs
  have hb : ¬ x ∈ builtinNames := by simpa using hs.2
  refine grd (by rw [hs.1.1, hs.1.2]; rfl) ?_
  rw [if_neg hb, hf]; exact bndx h
theorem c_len (hs : (notStar e && true && !false) = true) (h : evB T n sc Γ e = .ok a) (k : builtin1 "len" a = o) : evCall T (n + 1) sc Γ "len" [e] = o := grd hs (bnd h k)
theorem c_tuple (hs : (notStar e && true && !false) = true) (h : evB T n sc Γ e = .ok a) (k : builtin1 "tuple" a = o) : evCall T (n + 1) sc Γ "tuple" [e] = o := grd hs (bnd h k)
theorem c_min1 (hs : (notStar e && true && !false) = true) (h : evB T n sc Γ e = .ok a) (k : builtin1 "min" a = o) : evCall T (n + 1) sc Γ "min" [e] = o := grd hs (bnd h k)
theorem c_list (hs : (notStar e && true && !false) = true) (h : evIter T n sc Γ e = .ok ds) : evCall T (n + 1) sc Γ "list" [e] = .ok (.list ds) := grd hs (bnd h rfl)
theorem c_min2 (hs : (notStar l && (notStar r && true) && !false) = true) (h : evs T n sc Γ [l, r] = .ok [.int i, .int j]) : evCall T (n + 1) sc Γ "min" [l, r] = .ok (.int (min i j)) := grd hs (grd rfl (bnd h rfl))
theorem u_lenr {rs : List Row} : builtin1 "len" (rws rs) = .ok (.int rs.length) := by
  show Res.ok (PyData.int (((rs.map row).length : Nat) : Int)) = _
  rw [List.length_map]
theorem u_lenc {cs : List Cl} : builtin1 "len" (cls cs) = .ok (.int cs.length) := by
  show Res.ok (PyData.int (((cs.map cl).length : Nat) : Int)) = _
  rw [List.length_map]
theorem u_lenm {α : Type} {f : α → PyData} {l : List α} : builtin1 "len" (.list (l.map f)) = .ok (.int l.length) := by
  show Res.ok (PyData.int (((l.map f).length : Nat) : Int)) = _
  rw [List.length_map]
theorem u_leni {l : List Int} : builtin1 "len" (.list (il l)) = .ok (.int l.length) := u_lenm
theorem u_len : builtin1 "len" (.list xs) = .ok (.int xs.length) := rfl
theorem u_lent : builtin1 "len" (.tuple xs) = .ok (.int xs.length) := rfl
theorem u_tup : builtin1 "tuple" (.list xs) = .ok (.tuple xs) := rfl
-- what is gone through
noncomputable def seqD : PyData → Res (List PyData)
  | .list xs => .ok xs
  | .tuple xs => .ok xs
  | _ => .bad
theorem rng_ok {k : Nat} (h : k ≤ 1000) : (small (k : Int) && decide ((k : Int) ≤ ((szMax : Nat) : Int))) = true := by
  have h1 : (k : Int) ≤ ((szMax : Nat) : Int) := Int.ofNat_le.mpr (Nat.le_trans h (by decide))
  have h2 : small (k : Int) = true := by
    unfold small
    have a : (-1000000000 : Int) < k := by omega
    have b : (k : Int) < 1000000000 := by omega
    rw [decide_eq_true a, decide_eq_true b]; rfl
  rw [h2, decide_eq_true h1]; rfl
theorem rng_pass {k : Nat} (h : k ≤ 1000) (r : Res (List PyData)) : Res.guard (small (k : Int) && decide ((k : Int) ≤ ((szMax : Nat) : Int))) r = r := by rw [rng_ok h]; rfl
theorem i_rngI (hr : Γ "range" = none) (hg : isGlob sc "range" = true) (he : ev T n sc Γ e = .ok (.int i)) : evIter T (n + 1) sc Γ (.Call (.Name "range" q) [e] [] p) = .guard (small i && decide (i ≤ ((szMax : Nat) : Int))) (.ok (rangeD i)) := by
  show (match Γ "range" with
        | some _ => Res.bad
        | none => .guard (isGlob sc "range") ((ev T n sc Γ e).bind fun d => (match d with | .int k => .guard (small k && decide (k ≤ szMax)) (.ok (rangeD k)) | _ => .bad))) = _
  rw [hr, hg]; exact bnd he rfl
theorem i_rng {k : Nat} (hr : Γ "range" = none) (hg : isGlob sc "range" = true) (he : ev T n sc Γ e = .ok (.int (k : Int))) (hk : k ≤ 1000) : evIter T (n + 1) sc Γ (.Call (.Name "range" q) [e] [] p) = .ok (rangeD k) :=
  (i_rngI hr hg he).trans (rng_pass hk _)
theorem o_rng {k : Nat} (hr : Γ "range" = none) (hg : isGlob sc "range" = true) (he : ev T n sc Γ e = .ok (.int (k : Int))) (hk : k ≤ 1000) : evFor T n sc Γ (.Call (.Name "range" q) [e] [] p) = .ok (rangeD k) :=
  i_rng hr hg he hk
theorem i_call (hx : (x == "range") = false) (h : ev T n sc Γ (.Call (.Name x q) [e] [] p) = .ok d) (k : seqD d = .ok ds) : evIter T (n + 1) sc Γ (.Call (.Name x q) [e] [] p) = .ok ds := by
  have hx : ¬ x = "range" := by simpa using hx
  exact (if_neg hx).trans (bnd h k)
theorem i_call3 (h : ev T n sc Γ (.Call (.Name x q) (l :: r :: es) [] p) = .ok d) (k : seqD d = .ok ds) : evIter T (n + 2) sc Γ (.Call (.Name x q) (l :: r :: es) [] p) = .ok ds := bnd (b_else rfl h) k
theorem o_call (hx : (x == "range") = false) (h : ev T n sc Γ (.Call (.Name x q) [e] [] p) = .ok d) (k : seqD d = .ok ds) : evFor T n sc Γ (.Call (.Name x q) [e] [] p) = .ok ds := by
  have hx : ¬ x = "range" := by simpa using hx
  exact (if_neg hx).trans (bnd h k)
theorem o_call3 (h : ev T n sc Γ (.Call (.Name x q) (l :: r :: es) [] p) = .ok d) (k : seqD d = .ok ds) : evFor T n sc Γ (.Call (.Name x q) (l :: r :: es) [] p) = .ok ds := bnd h k
theorem i_name (h : Γ x = some (d, w)) (k : seqD d = .ok ds) : evIter T (n + 2) sc Γ (.Name x p) = .ok ds := bnd (b_name h) k
theorem i_else (hs : iPlain e = true) (h : ev T n sc Γ e = .ok d) (k : seqD d = .ok ds) : evIter T (n + 2) sc Γ e = .ok ds := by
  cases e <;> first | exact bnd (b_else rfl h) k | cases hs
theorem o_name (h : Γ x = some (d, false)) (k : seqD d = .ok ds) : evFor T (n + 1) sc Γ (.Name x p) = .ok ds := bnd (v_name h) k
theorem o_else (hs : iPlain e = true) (h : ev T n sc Γ e = .ok d) (k : seqD d = .ok ds) : evFor T n sc Γ e = .ok ds := by
  cases e <;> first | exact bnd h k | cases hs
end
section
variable {T : Tab} {fz : Nat → List Str} {n : Nat} {sc csc : Scope} {Γ Γ' : Vars} {e : Expr} {es : List Expr} {p q pos : Pos} {d a b k : PyData} {ds xs : List PyData} {x y : Str} {i j : Int} {w w' u : Bool}
-- statements
theorem x_ret (hz : fz pos.line = []) (h : ev T n sc Γ e = .ok d) : ex T fz (n + 1) sc Γ (.Return (some e) pos) = .ret d := by
  show Out.of (ev T n sc (Γ.freeze (fz pos.line)) e) (fun d => .ret d) = _
  rw [hz, freeze_nil]; exact otf h rfl
theorem x_retz {zs : List Str} (hz : fz pos.line = zs) (h : ev T n sc (Γ.freeze zs) e = .ok d) : ex T fz (n + 1) sc Γ (.Return (some e) pos) = .ret d := by
  subst hz; exact otf h rfl
theorem x_retx (hz : fz pos.line = []) (h : ev T n sc Γ e = .exc) : ex T fz (n + 1) sc Γ (.Return (some e) pos) = .exc := by
  show Out.of (ev T n sc (Γ.freeze (fz pos.line)) e) (fun d => .ret d) = _
  rw [hz, freeze_nil]; exact otfx h
theorem x_set0 (hz : fz pos.line = []) (hx : storable sc x = true) : ex T fz (n + 1) sc Γ (.Assign [.Name x p] (.List [] q) pos) = .nxt (Γ.set x (.list []) true) := by
  show (if storable sc x = true then Out.nxt ((Γ.freeze (fz pos.line)).set x (.list []) true) else .bad) = _
  rw [hz, freeze_nil, if_pos hx]
theorem x_setd (hz : fz pos.line = []) (hx : storable sc x = true) : ex T fz (n + 1) sc Γ (.Assign [.Name x p] (.Dict [] [] q) pos) = .nxt (Γ.set x (.dict []) true) := by
  show (if storable sc x = true then Out.nxt ((Γ.freeze (fz pos.line)).set x (.dict []) true) else .bad) = _
  rw [hz, freeze_nil, if_pos hx]
theorem x_setz {zs : List Str} (hz : fz pos.line = zs) (hx : storable sc x = true) (he : aPlain e = true) (h : ev T n sc (Γ.freeze zs) e = .ok d) : ex T fz (n + 1) sc Γ (.Assign [.Name x p] e pos) = .nxt ((Γ.freeze zs).set x d false) := by
  subst hz
  cases e with
  | List es _ => cases es <;> first | exact (if_pos hx).trans (otf h rfl) | cases he
  | _ => first | exact (if_pos hx).trans (otf h rfl) | cases he
theorem x_set (hz : fz pos.line = []) (hx : storable sc x = true) (he : aPlain e = true) (h : ev T n sc Γ e = .ok d) : ex T fz (n + 1) sc Γ (.Assign [.Name x p] e pos) = .nxt (Γ.set x d false) := by
  have := x_setz (p := p) hz hx he (by rw [freeze_nil]; exact h)
  rw [freeze_nil] at this; exact this
theorem x_setx {f : Str} {q1 q2 : Pos} (hz : fz pos.line = []) (hx : storable sc x = true) (h : ev T n sc Γ (.Call (.Name f q1) es [] q2) = .exc) : ex T fz (n + 1) sc Γ (.Assign [.Name x p] (.Call (.Name f q1) es [] q2) pos) = .exc := by
  have h : ev T n sc (Γ.freeze (fz pos.line)) (.Call (.Name f q1) es [] q2) = .exc := by rw [hz, freeze_nil]; exact h
  exact (if_pos hx).trans (otfx h)
theorem x_two {z : Nat} {f : Str} {p1 p2 q1 q2 : Pos} (hz : fz pos.line = []) (hx : (storable sc x && storable sc y && true && !(x == y)) = true)
    (h : ev T n sc Γ (.Call (.Name f q1) es [] q2) = .ok (.tuple [a, b])) : ex T fz (n + 1) sc Γ (.Assign [.Tuple [.Name x p1, .Name y p2] z q] (.Call (.Name f q1) es [] q2) pos) = .nxt ((Γ.set x a false).set y b false) := by
  have h : ev T n sc (Γ.freeze (fz pos.line)) (.Call (.Name f q1) es [] q2) = .ok (.tuple [a, b]) := by rw [hz, freeze_nil]; exact h
  have g : ex T fz (n + 1) sc Γ (.Assign [.Tuple [.Name x p1, .Name y p2] z q] (.Call (.Name f q1) es [] q2) pos) = .nxt (((Γ.freeze (fz pos.line)).set x a false).set y b false) := (if_pos hx).trans (otf h rfl)
  rw [hz, freeze_nil] at g; exact g
theorem x_twoz {z : Nat} {f : Str} {zs : List Str} {p1 p2 q1 q2 : Pos} (hz : fz pos.line = zs) (hx : (storable sc x && storable sc y && true && !(x == y)) = true)
    (h : ev T n sc (Γ.freeze zs) (.Call (.Name f q1) es [] q2) = .ok (.tuple [a, b])) : ex T fz (n + 1) sc Γ (.Assign [.Tuple [.Name x p1, .Name y p2] z q] (.Call (.Name f q1) es [] q2) pos) = .nxt (((Γ.freeze zs).set x a false).set y b false) := by
  subst hz; exact (if_pos hx).trans (otf h rfl)
theorem x_twox {z : Nat} {f : Str} {zs : List Str} {p1 p2 q1 q2 : Pos} (hz : fz pos.line = zs) (hx : (storable sc x && storable sc y && true && !(x == y)) = true)
    (h : ev T n sc (Γ.freeze zs) (.Call (.Name f q1) es [] q2) = .exc) : ex T fz (n + 1) sc Γ (.Assign [.Tuple [.Name x p1, .Name y p2] z q] (.Call (.Name f q1) es [] q2) pos) = .exc := by
  subst hz; exact (if_pos hx).trans (otfx h)
theorem x_aug (hz : fz pos.line = []) (hi : Γ x = some (.int i, w)) (hx : storable sc x = true) (h : ev T n sc Γ e = .ok (.int j)) : ex T fz (n + 1) sc Γ (.AugAssign (.Name x p) .Add e pos) = .nxt (Γ.set x (.int (i + j)) false) := by
  have h : ev T n sc (Γ.freeze (fz pos.line)) e = .ok (.int j) := by rw [hz, freeze_nil]; exact h
  have hi' : (Γ.freeze (fz pos.line)) x = some (.int i, w) := by rw [hz, freeze_nil]; exact hi
  show (match Operator.Add, (Γ.freeze (fz pos.line)) x with
      | .Add, some (.int i, _) => if storable sc x then Out.of (ev T n sc (Γ.freeze (fz pos.line)) e) fun d => (match d with
        | .int j => .nxt ((Γ.freeze (fz pos.line)).set x (.int (i + j)) false)
        | _ => .bad) else .bad
      | _, _ => .bad) = _
  rw [hi']
  refine (if_pos hx).trans (otf h ?_)
  rw [hz, freeze_nil]
theorem x_drop {f : Str} {q1 q2 : Pos} (hz : fz pos.line = []) (h : ev T n sc Γ (.Call (.Name f q1) es [] q2) = .ok d) (hl : loose d = true) : ex T fz (n + 1) sc Γ (.Expr (.Call (.Name f q1) es [] q2) pos) = .nxt Γ := by
  have h : ev T n sc (Γ.freeze (fz pos.line)) (.Call (.Name f q1) es [] q2) = .ok d := by rw [hz, freeze_nil]; exact h
  have g : (if loose d = true then Out.nxt (Γ.freeze (fz pos.line)) else .bad) = .nxt Γ := by rw [hl, hz, freeze_nil]; rfl
  exact (if_neg (t := Out.bad) Bool.false_ne_true).trans (otf h g)
theorem x_dropx {f : Str} {q1 q2 : Pos} (hz : fz pos.line = []) (h : ev T n sc Γ (.Call (.Name f q1) es [] q2) = .exc) : ex T fz (n + 1) sc Γ (.Expr (.Call (.Name f q1) es [] q2) pos) = .exc := by
  have h : ev T n sc (Γ.freeze (fz pos.line)) (.Call (.Name f q1) es [] q2) = .exc := by rw [hz, freeze_nil]; exact h
  exact (if_neg (t := Out.bad) Bool.false_ne_true).trans (otfx h)
theorem x_key {kvs kvs' : List (PyData × PyData)} {t : Expr} {p1 : Pos} (hz : fz pos.line = []) (hx : Γ x = some (.dict kvs, true)) (h : ev T n sc Γ e = .ok d) (ht : ev T n sc Γ t = .ok (.int i)) (hl : kvs.length ≤ szMax) (hs : storeKV i d kvs = kvs') :
    ex T fz (n + 1) sc Γ (.Assign [.Subscript (.Name x p) t p1] e pos) = .nxt (Γ.set x (.dict kvs') true) := by
  subst hs
  have e0 : Γ.freeze (fz pos.line) = Γ := by rw [hz, freeze_nil]
  show (match (Γ.freeze (fz pos.line)) x with
        | some (.dict kvs, true) => if kvs.length ≤ szMax then Out.of (ev T n sc (Γ.freeze (fz pos.line)) e) fun d => Out.of (ev T n sc (Γ.freeze (fz pos.line)) t) fun k => (match k with
          | .int k => .nxt ((Γ.freeze (fz pos.line)).set x (.dict (storeKV k d kvs)) true)
          | _ => .bad) else .bad
        | some (.list ds, true) => Out.of (ev T n sc (Γ.freeze (fz pos.line)) e) fun d => Out.of (ev T n sc (Γ.freeze (fz pos.line)) t) fun k => (match k with
          | .int k => if 0 ≤ k ∧ k < ds.length then .nxt ((Γ.freeze (fz pos.line)).set x (.list (ds.set k.toNat d)) true) else .bad
          | _ => .bad)
        | _ => .bad) = _
  rw [e0, hx]
  exact (if_pos hl).trans (otf h (otf ht rfl))
theorem x_at {t : Expr} {p1 : Pos} (hz : fz pos.line = []) (hx : Γ x = some (.list ds, true)) (h : ev T n sc Γ e = .ok d) (ht : ev T n sc Γ t = .ok (.int i)) (hl : decide (0 ≤ i ∧ i < ds.length) = true) :
    ex T fz (n + 1) sc Γ (.Assign [.Subscript (.Name x p) t p1] e pos) = .nxt (Γ.set x (.list (ds.set i.toNat d)) true) := by
  have e0 : Γ.freeze (fz pos.line) = Γ := by rw [hz, freeze_nil]
  show (match (Γ.freeze (fz pos.line)) x with
        | some (.dict kvs, true) => if kvs.length ≤ szMax then Out.of (ev T n sc (Γ.freeze (fz pos.line)) e) fun d => Out.of (ev T n sc (Γ.freeze (fz pos.line)) t) fun k => (match k with
          | .int k => .nxt ((Γ.freeze (fz pos.line)).set x (.dict (storeKV k d kvs)) true)
          | _ => .bad) else .bad
        | some (.list ds, true) => Out.of (ev T n sc (Γ.freeze (fz pos.line)) e) fun d => Out.of (ev T n sc (Γ.freeze (fz pos.line)) t) fun k => (match k with
          | .int k => if 0 ≤ k ∧ k < ds.length then .nxt ((Γ.freeze (fz pos.line)).set x (.list (ds.set k.toNat d)) true) else .bad
          | _ => .bad)
        | _ => .bad) = _
  rw [e0, hx]
  exact otf h (otf ht (if_pos (of_decide_eq_true hl)))
theorem x_comp {gens : List Comprehension} {elt : Expr} {p1 : Pos} (hz : fz pos.line = []) (hx : storable sc x = true) (hxl : (sc.names.lookup x == some .local) = true) (hl : (p.line == p1.line && !(csc.names.any fun (n, k) => n == x && (k == .local || k == .cell))) = true)
    (h : evComp T n sc Γ elt gens csc = .ok ds) : ex T fz (n + 1) sc Γ (.Assign [.Name x p] (.ListComp elt gens csc p1) pos) = .nxt (Γ.set x (.list ds) true) := by
  have e0 : Γ.freeze (fz pos.line) = Γ := by rw [hz, freeze_nil]
  simp only [Bool.and_eq_true, Bool.not_eq_true', beq_iff_eq] at hl hxl
  refine (if_pos hx).trans ((if_pos hxl).trans ((if_pos hl).trans ?_))
  rw [e0]; exact otf h rfl
theorem x_lc {gens : List Comprehension} {elt : Expr} {p1 : Pos} (hz : fz pos.line = []) (hx : storable sc x = true) (hxl : (sc.names.lookup x == some .local) = false) (h : ev T n sc Γ (.ListComp elt gens csc p1) = .ok d) :
    ex T fz (n + 1) sc Γ (.Assign [.Name x p] (.ListComp elt gens csc p1) pos) = .nxt (Γ.set x d false) := by
  have e0 : Γ.freeze (fz pos.line) = Γ := by rw [hz, freeze_nil]
  have hxl : ¬ sc.names.lookup x = some .local := by simpa using hxl
  refine (if_pos hx).trans ((if_neg hxl).trans ?_)
  rw [e0]; exact otf h rfl
theorem q_nil {f : Expr → Res Bool} : testOf [] f = .ok true := rfl
theorem q_one {f : Expr → Res Bool} {ob : Res Bool} (h : f e = ob) : testOf [e] f = ob := h
theorem l_nil {tf : Vars → Res Bool} {ef : Vars → Res PyData} : compL tf ef x Γ [] = .ok [] := rfl
theorem l_cons {tf : Vars → Res Bool} {ef : Vars → Res PyData} (h1 : tf (Γ.set x d false) = .ok true) (h2 : ef (Γ.set x d false) = .ok a) (h3 : compL tf ef x Γ xs = .ok ds) : compL tf ef x Γ (d :: xs) = .ok (a :: ds) :=
  bnd h1 (bnd h2 (bnd h3 rfl))
theorem x_raise (hg : isGlob sc "BadCode" = true) (hn : Γ "BadCode" = none) (hs : (es.all notStar && decide (es.length = 2)) = true) (h : evs T n sc Γ es = .ok ds) : ex T fz (n + 1) sc Γ (.Raise (some (.Call (.Name "BadCode" p) es [] q)) none pos) = .exc := by
  simp only [Bool.and_eq_true, decide_eq_true_eq] at hs
  refine (if_pos ⟨rfl, hg, hn, hs.1, hs.2⟩).trans ?_
  rw [h]
-- leaves
theorem md (hc : decide (j ≠ 0) = true) {m : Int} (h : i.fmod j = m) : binop .Mod (.int i) (.int j) = .ok (.int m) := by rw [← h]; exact grd hc rfl
theorem fd (hc : (decide (j ≠ 0) && small j) = true) {m : Int} (h : i.fdiv j = m) : binop .FloorDiv (.int i) (.int j) = .ok (.int m) := by rw [← h]; exact grd hc rfl
theorem ph {α : Type} {X Y a : α} (e : X = Y) (k : Y = a) : X = a := e.trans k
theorem cg {α β : Type} {f : α → β} {t u : α} {a : β} (h : t = u) (k : f u = a) : f t = a := by rw [h]; exact k
theorem nt_t (h : w = false) : (!w) = true := by rw [h]; rfl
theorem nt_f (h : w = true) : (!w) = false := by rw [h]; rfl
theorem fi_t {α : Type} {X a b : α} (e : X = if w = true then a else b) (h : w = true) : X = a := e.trans (if_pos h)
theorem fi_f {α : Type} {X a b : α} (e : X = if w = true then a else b) (h : w = false) : X = b := e.trans (if_neg (by rw [h]; decide))
theorem m_eq (h : (i == j) = w) : cmp1 .Eq (.int i) (.int j) = .ok w := by rw [← h]; rfl
theorem m_ne (h : (i == j) = w) : cmp1 .NotEq (.int i) (.int j) = .ok (!w) := by rw [← h]; rfl
theorem m_lt (h : decide (i < j) = w) : cmp1 .Lt (.int i) (.int j) = .ok w := by rw [← h]; rfl
theorem m_le (h : decide (i ≤ j) = w) : cmp1 .LtE (.int i) (.int j) = .ok w := by rw [← h]; rfl
theorem m_gt (h : decide (i > j) = w) : cmp1 .Gt (.int i) (.int j) = .ok w := by rw [← h]; rfl
theorem m_ge (h : decide (i ≥ j) = w) : cmp1 .GtE (.int i) (.int j) = .ok w := by rw [← h]; rfl
theorem m_inl {o : Res Bool} (h : memD a xs = o) : cmp1 .In a (.list xs) = o := h
theorem m_int {o : Res Bool} (h : memD a xs = o) : cmp1 .In a (.tuple xs) = o := h
theorem r_bool (h : w = w') : truth (.bool w) = .ok w' := by rw [h]; rfl
theorem r_list (h : xs.isEmpty = w) : truth (.list xs) = .ok (!w) := by rw [← h]; rfl
theorem r_int (h : (i == 0) = w) : truth (.int i) = .ok (!w) := by rw [← h]; rfl
end
end
section
set_option maxRecDepth 100000
set_option linter.unusedVariables false
set_option linter.unusedSimpArgs false
noncomputable def edgesOf (k : Cl) : List Int := if k.s == 1 then [k.a, k.b, k.c, k.d, k.e] else [k.a, k.b, k.c, k.d]
noncomputable def tup (l : List Int) : PyData := .tuple (il l)

theorem sem_clause_edges (T : Tab) (h1 : T.consts "EC_FILTER" = some 1) (k : Cl) : runDef T frz fuel F_clause_edges.1.scope ["clause"] (bodyOf F_clause_edges.1) [cl k] = .ok (tup (edgesOf k)) := by
  refine run_ret rfl ?_
  simp only [F_clause_edges, bodyOf, fuel, bindV_cons, bindV_nil, isGlob]
  cases h : (k.s == 1)
  · refine exs_nxt (eif_f rfl (by exact (t_cmp (v_sub rfl (b_name set_eq) v_int rfl) (h_one (b_glob (set_ne rfl emp_eq) rfl h1) (m_eq h)))) exs_nil) (exs_ret ?_)
    exact Eq.trans (x_ret rfl (v_tup (s_cons (v_sub rfl (b_name set_eq) v_int rfl) (s_cons (v_sub rfl (b_name set_eq) v_int rfl) (s_cons (v_sub rfl (b_name set_eq) v_int rfl) (s_cons (v_sub rfl (b_name set_eq) v_int rfl) s_nil)))) rfl)) (by simp only [List.length_cons, List.length_nil, if_true, if_false, reduceIte, reduceCtorEq, Option.map_some, Option.map_none, Int.reduceLE, Int.reduceLT, Int.reduceToNat, List.getElem?_cons_zero, List.getElem?_cons_succ, cmp1i, cmp1in, Bool.false_eq_true, or_false, or_true, true_or, false_or, beq_self_eq_true, Nat.reduceAdd, decide_true, decide_false, binop_add, binop_sub, Bool.and_true, Bool.true_and, Bool.and_false, Bool.false_and, Bool.or_false, Bool.or_true, Bool.true_or, Bool.false_or, List.isEmpty_cons, List.isEmpty_nil, Bool.not_true, Bool.not_false, and_true, true_and, and_self, ne_eq, not_false_eq_true, List.length_map, cmpint, cl, h, h1, edgesOf, tup, il, List.map_cons, List.map_nil])
  · refine exs_ret (eif_t rfl (by exact (t_cmp (v_sub rfl (b_name set_eq) v_int rfl) (h_one (b_glob (set_ne rfl emp_eq) rfl h1) (m_eq h)))) (exs_ret ?_))
    exact Eq.trans (x_ret rfl (v_tup (s_cons (v_sub rfl (b_name set_eq) v_int rfl) (s_cons (v_sub rfl (b_name set_eq) v_int rfl) (s_cons (v_sub rfl (b_name set_eq) v_int rfl) (s_cons (v_sub rfl (b_name set_eq) v_int rfl) (s_cons (v_sub rfl (b_name set_eq) v_int rfl) s_nil))))) rfl)) (by simp only [List.length_cons, List.length_nil, if_true, if_false, reduceIte, reduceCtorEq, Option.map_some, Option.map_none, Int.reduceLE, Int.reduceLT, Int.reduceToNat, List.getElem?_cons_zero, List.getElem?_cons_succ, cmp1i, cmp1in, Bool.false_eq_true, or_false, or_true, true_or, false_or, beq_self_eq_true, Nat.reduceAdd, decide_true, decide_false, binop_add, binop_sub, Bool.and_true, Bool.true_and, Bool.and_false, Bool.false_and, Bool.or_false, Bool.or_true, Bool.true_or, Bool.false_or, List.isEmpty_cons, List.isEmpty_nil, Bool.not_true, Bool.not_false, and_true, true_and, and_self, ne_eq, not_false_eq_true, List.length_map, cmpint, cl, h, h1, edgesOf, tup, il, List.map_cons, List.map_nil])

noncomputable def pre (op : Int) : Int := if op == 65046 then 111 else if op == 65054 then 143 else -1
theorem sem_prefix_goal (T : Tab) (h1 : T.consts "OP_CONSTRAINED" = some 65046) (h2 : T.consts "OP_READONLY" = some 65054) (h3 : T.consts "OP_CALLVIRT" = some 111) (h4 : T.consts "OP_LDELEMA" = some 143) (op : Int) :
    runDef T frz fuel F_prefix_goal.1.scope ["op"] (bodyOf F_prefix_goal.1) [.int op] = .ok (.int (pre op)) := by
  refine run_ret rfl ?_
  simp only [F_prefix_goal, bodyOf, fuel, bindV_cons, bindV_nil, isGlob]
  cases h : (op == 65046)
  · refine exs_nxt (eif_f rfl (by exact (t_cmp (v_name set_eq) (h_one (b_glob (set_ne rfl emp_eq) rfl h1) (m_eq h)))) exs_nil) ?_
    cases h' : (op == 65054)
    · refine exs_nxt (eif_f rfl (by exact (t_cmp (v_name set_eq) (h_one (b_glob (set_ne rfl emp_eq) rfl h2) (m_eq h')))) exs_nil) (exs_ret ?_)
      exact Eq.trans (x_ret rfl (v_usub v_int)) (by simp only [List.length_cons, List.length_nil, if_true, if_false, reduceIte, reduceCtorEq, Option.map_some, Option.map_none, Int.reduceLE, Int.reduceLT, Int.reduceToNat, List.getElem?_cons_zero, List.getElem?_cons_succ, cmp1i, cmp1in, Bool.false_eq_true, or_false, or_true, true_or, false_or, beq_self_eq_true, Nat.reduceAdd, decide_true, decide_false, binop_add, binop_sub, Bool.and_true, Bool.true_and, Bool.and_false, Bool.false_and, Bool.or_false, Bool.or_true, Bool.true_or, Bool.false_or, List.isEmpty_cons, List.isEmpty_nil, Bool.not_true, Bool.not_false, and_true, true_and, and_self, ne_eq, not_false_eq_true, List.length_map, cmpint, h, h', pre])
    · refine exs_ret (eif_t rfl (by exact (t_cmp (v_name set_eq) (h_one (b_glob (set_ne rfl emp_eq) rfl h2) (m_eq h')))) (exs_ret ?_))
      exact Eq.trans (x_ret rfl (v_glob (set_ne rfl emp_eq) rfl h4)) (by simp only [List.length_cons, List.length_nil, if_true, if_false, reduceIte, reduceCtorEq, Option.map_some, Option.map_none, Int.reduceLE, Int.reduceLT, Int.reduceToNat, List.getElem?_cons_zero, List.getElem?_cons_succ, cmp1i, cmp1in, Bool.false_eq_true, or_false, or_true, true_or, false_or, beq_self_eq_true, Nat.reduceAdd, decide_true, decide_false, binop_add, binop_sub, Bool.and_true, Bool.true_and, Bool.and_false, Bool.false_and, Bool.or_false, Bool.or_true, Bool.true_or, Bool.false_or, List.isEmpty_cons, List.isEmpty_nil, Bool.not_true, Bool.not_false, and_true, true_and, and_self, ne_eq, not_false_eq_true, List.length_map, cmpint, h, h', h4, pre])
  · refine exs_ret (eif_t rfl (by exact (t_cmp (v_name set_eq) (h_one (b_glob (set_ne rfl emp_eq) rfl h1) (m_eq h)))) (exs_ret ?_))
    exact Eq.trans (x_ret rfl (v_glob (set_ne rfl emp_eq) rfl h3)) (by simp only [List.length_cons, List.length_nil, if_true, if_false, reduceIte, reduceCtorEq, Option.map_some, Option.map_none, Int.reduceLE, Int.reduceLT, Int.reduceToNat, List.getElem?_cons_zero, List.getElem?_cons_succ, cmp1i, cmp1in, Bool.false_eq_true, or_false, or_true, true_or, false_or, beq_self_eq_true, Nat.reduceAdd, decide_true, decide_false, binop_add, binop_sub, Bool.and_true, Bool.true_and, Bool.and_false, Bool.false_and, Bool.or_false, Bool.or_true, Bool.true_or, Bool.false_or, List.isEmpty_cons, List.isEmpty_nil, Bool.not_true, Bool.not_false, and_true, true_and, and_self, ne_eq, not_false_eq_true, List.length_map, cmpint, h, h3, pre])

noncomputable def isBr (op : Int) : Bool := (decide (56 ≤ op) && decide (op < 69)) || op == 221
theorem sem_is_branch (T : Tab) (h1 : T.consts "SO_BRANCH" = some 5) (op : Int) (hs : ((T.sorts.lookup op).getD (-1) == 5) = isBr op) :
    runDef T frz fuel F_is_branch.1.scope ["op"] (bodyOf F_is_branch.1) [.int op] = .ok (.bool (isBr op)) := by
  refine run_ret rfl (exs_ret ?_)
  simp only [F_is_branch, bodyOf, fuel, bindV_cons, bindV_nil, isGlob]
  exact (x_ret rfl (v_cmp (v_get rfl (set_ne rfl emp_eq) rfl (v_name set_eq) (v_usub v_int)) (h_one (b_glob (set_ne rfl emp_eq) rfl h1) (m_eq hs))))

theorem sem_checked_ok (T : Tab) (xs : List PyData) (i g : Int) (h0 : 0 ≤ g) (h1 : g < xs.length) :
    runDef T frz fuel F_checked_goal.1.scope ["code", "i", "goal"] (bodyOf F_checked_goal.1) [.list xs, .int i, .int g] = .ok (.int g) := by
  refine run_ret rfl ?_
  simp only [F_checked_goal, bodyOf, fuel, bindV_cons, bindV_nil, isGlob]
  have e1 : decide (g < 0) = false := by simpa using h0
  have e2 : decide (g ≥ (xs.length : Int)) = false := by simpa using h1
  refine exs_nxt (eif_f rfl (by exact (t_all (a_or (t_cmp (v_name (set_ne rfl (set_ne rfl set_eq))) (h_one (b_else rfl v_int) (m_lt e1))) (or_f rfl (a_or (t_cmp (v_name (set_ne rfl (set_ne rfl set_eq))) (h_one (b_else rfl (v_call (set_ne rfl (set_ne rfl (set_ne rfl emp_eq))) rfl (c_len rfl (b_name set_eq) u_len))) (m_ge e2))) (or_f rfl a_nilo)))))) exs_nil) (exs_ret ?_)
  exact (x_ret rfl (v_name (set_ne rfl (set_ne rfl set_eq))))
theorem sem_checked_exc (T : Tab) (xs : List PyData) (i g : Int) (h : ¬ (0 ≤ g ∧ g < xs.length)) :
    runDef T frz fuel F_checked_goal.1.scope ["code", "i", "goal"] (bodyOf F_checked_goal.1) [.list xs, .int i, .int g] = .exc := by
  refine run_exc rfl ?_
  simp only [F_checked_goal, bodyOf, fuel, bindV_cons, bindV_nil, isGlob]
  by_cases hg : g < 0
  · have e1 : decide (g < 0) = true := by simpa using hg
    refine exs_exc (eif_t rfl (by exact (t_all (a_or (t_cmp (v_name (set_ne rfl (set_ne rfl set_eq))) (h_one (b_else rfl v_int) (m_lt e1))) (or_t rfl)))) (exs_exc ?_))
    exact (x_raise rfl (set_ne rfl (set_ne rfl (set_ne rfl emp_eq))) rfl (s_cons v_str (s_cons (v_name (set_ne rfl set_eq)) s_nil)))
  · have e1 : decide (g < 0) = false := by simpa using hg
    have e2 : decide (g ≥ (xs.length : Int)) = true := by simp; omega
    refine exs_exc (eif_t rfl (by exact (t_all (a_or (t_cmp (v_name (set_ne rfl (set_ne rfl set_eq))) (h_one (b_else rfl v_int) (m_lt e1))) (or_f rfl (a_or (t_cmp (v_name (set_ne rfl (set_ne rfl set_eq))) (h_one (b_else rfl (v_call (set_ne rfl (set_ne rfl (set_ne rfl emp_eq))) rfl (c_len rfl (b_name set_eq) u_len))) (m_ge e2))) (or_t rfl)))))) (exs_exc ?_))
    exact (x_raise rfl (set_ne rfl (set_ne rfl (set_ne rfl emp_eq))) rfl (s_cons v_str (s_cons (v_name (set_ne rfl set_eq)) s_nil)))
end
section
set_option maxRecDepth 100000
set_option linter.unusedVariables false
set_option linter.unusedSimpArgs false

section
variable {T : Tab} {fz : Nat → List Str} {n : Nat} {sc : Scope} {Γ Γ' : Vars} {o : Out} {d : PyData} {pos : Pos}
theorem eappend {x m : Str} {xp apos cpos : Pos} {e : Expr} {ds : List PyData} (hz : fz pos.line = []) (hx : Γ x = some (.list ds, true)) (hm : m = "append" ∧ apos.endLine = cpos.line ∧ notStar e = true ∧ isComp e = false) (hl : ds.length ≤ 1000)
    (he : ev T n sc Γ e = .ok d) : ex T fz (n + 1) sc Γ (.Expr (.Call (.Attribute (.Name x xp) m apos) [e] [] cpos) pos) = .nxt (Γ.set x (.list (ds ++ [d])) true) := by
  have h2 : ds.length ≤ szMax := by unfold szMax; omega
  show (match (Γ.freeze (fz pos.line)) x with
        | some (.list ds, true) => if m = "append" ∧ apos.endLine = cpos.line ∧ notStar e = true ∧ isComp e = false ∧ ds.length ≤ szMax then Out.of (ev T n sc (Γ.freeze (fz pos.line)) e) fun d => .nxt ((Γ.freeze (fz pos.line)).set x (.list (ds ++ [d])) true) else .bad
        | _ => .bad) = _
  rw [hz, freeze_nil, hx]
  exact (if_pos ⟨hm.1, hm.2.1, hm.2.2.1, hm.2.2.2, h2⟩).trans (otf he rfl)
theorem eappend_exc {x m : Str} {xp apos cpos : Pos} {e : Expr} {ds : List PyData} (hz : fz pos.line = []) (hx : Γ x = some (.list ds, true)) (hm : m = "append" ∧ apos.endLine = cpos.line ∧ notStar e = true ∧ isComp e = false) (hl : ds.length ≤ 1000)
    (he : ev T n sc Γ e = .exc) : ex T fz (n + 1) sc Γ (.Expr (.Call (.Attribute (.Name x xp) m apos) [e] [] cpos) pos) = .exc := by
  have h2 : ds.length ≤ szMax := by unfold szMax; omega
  show (match (Γ.freeze (fz pos.line)) x with
        | some (.list ds, true) => if m = "append" ∧ apos.endLine = cpos.line ∧ notStar e = true ∧ isComp e = false ∧ ds.length ≤ szMax then Out.of (ev T n sc (Γ.freeze (fz pos.line)) e) fun d => .nxt ((Γ.freeze (fz pos.line)).set x (.list (ds ++ [d])) true) else .bad
        | _ => .bad) = _
  rw [hz, freeze_nil, hx]
  exact (if_pos ⟨hm.1, hm.2.1, hm.2.2.1, hm.2.2.2, h2⟩).trans (otfx he)
/-- out = []; for x in L: out.append(..) -/
theorem forL_app (b : Vars → Out) (x out : Str) (f : PyData → PyData) (I : Vars → Prop) (ds : List PyData) (Γ : Vars) (h0 : Γ out = some (.list [], true)) (hI : I Γ)
    (step : ∀ k d Γ es, ds[k]? = some d → es.length = k → Γ out = some (.list es, true) → I Γ → ∃ Γ', b (Γ.set x d false) = .nxt Γ' ∧ Γ' out = some (.list (es ++ [f d]), true) ∧ I Γ') :
    ∃ Γ', forL b x ds Γ = .nxt Γ' ∧ Γ' out = some (.list (ds.map f), true) ∧ I Γ' := by
  obtain ⟨Γ', e, h1, h2⟩ := forL_ind b x (fun k Γ => Γ out = some (.list ((ds.take k).map f), true) ∧ I Γ) ds 0 Γ ⟨by simpa using h0, hI⟩ (fun k d Γ hk ⟨h1, h2⟩ => by
    rw [Nat.zero_add] at h1 ⊢
    have hlt : k < ds.length := by
      by_cases q : k < ds.length
      · exact q
      · rw [List.getElem?_eq_none (by omega)] at hk; cases hk
    obtain ⟨Γ', e, h3, h4⟩ := step k d Γ _ hk (by simp; omega) h1 h2
    refine ⟨Γ', e, ?_, h4⟩
    rw [h3]
    have : ds.take (k + 1) = ds.take k ++ [d] := by rw [List.take_add_one, hk]; rfl
    rw [this, List.map_append]; rfl)
  refine ⟨Γ', e, ?_, h2⟩
  rw [Nat.zero_add, List.take_length] at h1; exact h1
end

section
variable {T : Tab} {fz : Nat → List Str} {n : Nat} {sc : Scope} {Γ : Vars} {o : Out} {pos : Pos}
noncomputable def Goes (o : Out) (P : Vars → Prop) : Prop := ∃ Γ', o = .nxt Γ' ∧ P Γ'
theorem go_nxt {st : Stmt} {r : List Stmt} {Γ' : Vars} {P : Vars → Prop} (h : ex T fz n sc Γ st = .nxt Γ') (k : Goes (exs T fz n sc Γ' r) P) : Goes (exs T fz (n + 1) sc Γ (st :: r)) P := by
  obtain ⟨Γ2, e, p⟩ := k; exact ⟨Γ2, exs_nxt h e, p⟩
theorem go_nil {P : Vars → Prop} (h : P Γ) : Goes (exs T fz (n + 1) sc Γ []) P := ⟨Γ, exs_nil, h⟩
theorem go_if {t : Expr} {b e : List Stmt} {c : Bool} {r : List Stmt} {P R : Vars → Prop} (hz : fz pos.line = []) (h : evT T n sc Γ t = .ok c) (h1 : c = true → Goes (exs T fz n sc Γ b) R) (h0 : c = false → Goes (exs T fz n sc Γ e) R)
    (k : ∀ Γ', R Γ' → Goes (exs T fz (n + 1) sc Γ' r) P) : Goes (exs T fz (n + 2) sc Γ (.If t b e pos :: r)) P := by
  cases c with
  | true => obtain ⟨Γ', e, p⟩ := h1 rfl; exact go_nxt (eif_t hz h e) (k Γ' p)
  | false => obtain ⟨Γ', e, p⟩ := h0 rfl; exact go_nxt (eif_f hz h e) (k Γ' p)
theorem go_if_app {t : Expr} {x m : Str} {xp apos cpos p2 : Pos} {e : Expr} {ds : List PyData} {d : PyData} {c : Bool} {r : List Stmt} {P : Vars → Prop} (hz : fz pos.line = []) (hz2 : fz p2.line = []) (h : evT T (n + 2) sc Γ t = .ok c) (hx : Γ x = some (.list ds, true))
    (hm : m = "append" ∧ apos.endLine = cpos.line ∧ notStar e = true ∧ isComp e = false) (hl : ds.length ≤ 1000) (he : c = true → ev T n sc Γ e = .ok d)
    (k : ∀ Γ', Γ' x = some (.list (ds ++ if c then [d] else []), true) → (∀ y, y ≠ x → Γ' y = Γ y) → Goes (exs T fz (n + 3) sc Γ' r) P) : Goes (exs T fz (n + 4) sc Γ (.If t [.Expr (.Call (.Attribute (.Name x xp) m apos) [e] [] cpos) p2] [] pos :: r)) P := by
  cases c with
  | true => exact go_nxt (eif_t hz h (exs_nxt (eappend hz2 hx hm hl (he rfl)) exs_nil)) (k _ (by rw [set_app, if_pos rfl]; rfl) (fun y hy => by rw [set_app, if_neg hy]))
  | false => exact go_nxt (eif_f hz h exs_nil) (k _ (by rw [hx]; simp) (fun y hy => rfl))
theorem xfor {x : Str} {p : Pos} {it : Expr} {b r : List Stmt} {ds : List PyData} (I : Nat → Vars → Prop) (hz : fz pos.line = []) (hx : storable sc x = true) (h : evFor T n sc Γ it = .ok ds) (h0 : I 0 Γ)
    (step : ∀ k d Γ, ds[k]? = some d → I k Γ → Goes (exs T fz n sc (Γ.set x d false) b) (I (k + 1))) (rest : ∀ Γ', I ds.length Γ' → exs T fz (n + 1) sc Γ' r = o) : exs T fz (n + 2) sc Γ (.For (.Name x p) it b [] pos :: r) = o := by
  obtain ⟨Γ', e, hI⟩ := forL_ind (fun Γ => exs T fz n sc Γ b) x I ds 0 Γ h0 (fun k d Γ hk hI => by
    rw [Nat.zero_add] at hI ⊢; exact step k d Γ hk hI)
  rw [Nat.zero_add] at hI
  exact exs_nxt (efor hz hx h e) (rest Γ' hI)
theorem xfor_app {x out : Str} {p : Pos} {it : Expr} {b r : List Stmt} {ds : List PyData} (f : PyData → PyData) (I : Vars → Prop) (hz : fz pos.line = []) (hx : storable sc x = true) (h : evFor T n sc Γ it = .ok ds) (h0 : Γ out = some (.list [], true)) (hI : I Γ)
    (step : ∀ k d Γ es, ds[k]? = some d → es.length = k → Γ out = some (.list es, true) → I Γ → Goes (exs T fz n sc (Γ.set x d false) b) fun Γ' => Γ' out = some (.list (es ++ [f d]), true) ∧ I Γ')
    (rest : ∀ Γ', Γ' out = some (.list (ds.map f), true) → I Γ' → exs T fz (n + 1) sc Γ' r = o) : exs T fz (n + 2) sc Γ (.For (.Name x p) it b [] pos :: r) = o := by
  obtain ⟨Γ', e, h1, h2⟩ := forL_app (fun Γ => exs T fz n sc Γ b) x out f I ds Γ h0 hI step
  exact exs_nxt (efor hz hx h e) (rest Γ' h1 h2)
theorem xfor_any {x : Str} {p : Pos} {it : Expr} {b r : List Stmt} {ds : List PyData} (P : PyData → Bool) (o' : Out) (ho : ∀ Γ, o' ≠ .nxt Γ) (I : Vars → Prop) (hz : fz pos.line = []) (hx : storable sc x = true) (h : evFor T n sc Γ it = .ok ds) (hI : I Γ)
    (s1 : ∀ d ∈ ds, ∀ Γ, I Γ → P d = false → Goes (exs T fz n sc (Γ.set x d false) b) I) (s2 : ∀ d ∈ ds, ∀ Γ, I Γ → P d = true → exs T fz n sc (Γ.set x d false) b = o')
    (rest : ds.any P = false → ∀ Γ', I Γ' → exs T fz (n + 1) sc Γ' r = o) (stop : ds.any P = true → o' = o) : exs T fz (n + 2) sc Γ (.For (.Name x p) it b [] pos :: r) = o := by
  have key := forL_any (fun Γ => exs T fz n sc Γ b) x I P o' ho ds Γ hI s1 s2
  cases hp : ds.any P with
  | true =>
    rw [hp, if_pos rfl] at key
    have e := efor (p := p) (pos := pos) hz hx h key
    rw [← stop hp]
    show (ex T fz (n + 1) sc Γ (.For (.Name x p) it b [] pos)).andThen (fun Γ' => exs T fz (n + 1) sc Γ' r) = o'
    rw [e]
    cases o' <;> first | rfl | exact absurd rfl (ho _)
  | false =>
    rw [hp, if_neg (by decide)] at key
    obtain ⟨Γ', e, hI'⟩ := key
    exact exs_nxt (efor hz hx h e) (rest hp Γ' hI')
end

theorem small_guard {k : Nat} (h : k ≤ 1000) : (small (k : Int) && decide ((k : Int) ≤ ((szMax : Nat) : Int))) = true := by
  have h1 : (k : Int) ≤ ((szMax : Nat) : Int) := Int.ofNat_le.mpr (Nat.le_trans h (by decide))
  have h2 : small (k : Int) = true := by
    unfold small
    have a : (-1000000000 : Int) < k := by omega
    have b : (k : Int) < 1000000000 := by omega
    rw [decide_eq_true a, decide_eq_true b]; rfl
  rw [h2, decide_eq_true h1]; rfl
theorem small_pass {k : Nat} (h : k ≤ 1000) (r : Res (List PyData)) : Res.guard (small (k : Int) && decide ((k : Int) ≤ ((szMax : Nat) : Int))) r = r := by rw [small_guard h]; rfl
theorem evIter_range {T : Tab} {n : Nat} {sc : Scope} {Γ : Vars} {a : Expr} {p pos : Pos} {k : Int} (hr : Γ "range" = none) (hg : isGlob sc "range" = true) (he : ev T n sc Γ a = .ok (.int k)) :
    evIter T (n + 1) sc Γ (.Call (.Name "range" p) [a] [] pos) = .guard (small k && decide (k ≤ ((szMax : Nat) : Int))) (.ok (rangeD k)) := i_rngI hr hg he
theorem evFor_rangeI {T : Tab} {n : Nat} {sc : Scope} {Γ : Vars} {a : Expr} {p pos : Pos} {k : Int} (hr : Γ "range" = none) (hg : isGlob sc "range" = true) (he : ev T n sc Γ a = .ok (.int k)) :
    evFor T n sc Γ (.Call (.Name "range" p) [a] [] pos) = .guard (small k && decide (k ≤ ((szMax : Nat) : Int))) (.ok (rangeD k)) := i_rngI hr hg he
theorem evFor_range {T : Tab} {n : Nat} {sc : Scope} {Γ : Vars} {a : Expr} {p pos : Pos} {k : Nat} (hk : k ≤ 1000) (hr : Γ "range" = none) (hg : isGlob sc "range" = true) (he : ev T n sc Γ a = .ok (.int k)) :
    evFor T n sc Γ (.Call (.Name "range" p) [a] [] pos) = .ok (rangeD k) := (evFor_rangeI hr hg he).trans (small_pass hk _)
theorem evFor_name {T : Tab} {n : Nat} {sc : Scope} {Γ : Vars} {x : Str} {p : Pos} {ds : List PyData} (h : Γ x = some (.list ds, false)) : evFor T (n + 1) sc Γ (.Name x p) = .ok ds := bnd (v_name h) rfl
noncomputable def cnt (fs : List Bool) (j : Nat) : Int := (((fs.take j).count true : Nat) : Int)
noncomputable def placesOf (fs : List Bool) : List Int := (List.range (fs.length + 1)).map (cnt fs)
theorem cnt_succ {fs : List Bool} {k : Nat} {b : Bool} (h : fs[k]? = some b) : cnt fs (k + 1) = if b then cnt fs k + 1 else cnt fs k := by
  unfold cnt
  rw [List.take_add_one, h, List.count_append]
  cases b <;> simp

theorem sem_new_places (T : Tab) (fs : List Bool) (hl : fs.length ≤ 900) : runDef T frz fuel F_new_places.1.scope ["flags"] (bodyOf F_new_places.1) [.list (fs.map .bool)] = .ok (.list (il (placesOf fs))) := by
  refine run_ret rfl ?_
  simp only [F_new_places, bodyOf, fuel, bindV_cons, bindV_nil, isGlob]
  refine exs_nxt (by exact (x_set0 rfl rfl)) ?_
  refine exs_nxt (by exact (x_set rfl rfl rfl v_int)) ?_
  refine xfor (ds := fs.map .bool) (fun k Γ => Γ "out" = some (.list (il ((List.range k).map (cnt fs))), true) ∧ Γ "count" = some (.int (cnt fs k), false)) rfl rfl (by exact (o_name (set_ne rfl (set_ne rfl set_eq)) rfl)) ⟨by exact Eq.trans (set_ne rfl set_eq) rfl, by exact Eq.trans set_eq rfl⟩ (fun k d Γ hk ⟨h1, h2⟩ => ?_) fun Γ' ⟨h1, h2⟩ => ?_
  · rw [List.getElem?_map] at hk
    obtain ⟨b, hb, rfl⟩ := Option.map_eq_some_iff.mp hk
    have hkl : k < fs.length := by
      by_cases q : k < fs.length
      · exact q
      · rw [List.getElem?_eq_none (by omega)] at hb; cases hb
    have hc := cnt_succ hb
    have hR : il ((List.range (k + 1)).map (cnt fs)) = il ((List.range k).map (cnt fs)) ++ [.int (cnt fs k)] := by simp [il, List.range_succ]
    rw [hR]
    cases b with
    | true =>
      refine ⟨_, exs_nxt (eappend (ds := il ((List.range k).map (cnt fs))) (d := .int (cnt fs k)) rfl (by exact (set_ne rfl h1)) ⟨rfl, rfl, rfl, rfl⟩ (by simp [il]; omega) (by exact (v_name (set_ne rfl h2)))) (exs_one (eif_t rfl (by exact (t_name (set_ne rfl set_eq) (r_bool rfl))) (exs_one (by exact (x_aug rfl (set_ne rfl (set_ne rfl h2)) rfl v_int)) (by decide))) (by decide)), ?_, ?_⟩
      · exact (set_ne rfl set_eq)
      · exact Eq.trans set_eq (by simp only [List.length_cons, List.length_nil, if_true, if_false, reduceIte, reduceCtorEq, Option.map_some, Option.map_none, Int.reduceLE, Int.reduceLT, Int.reduceToNat, List.getElem?_cons_zero, List.getElem?_cons_succ, cmp1i, cmp1in, Bool.false_eq_true, or_false, or_true, true_or, false_or, beq_self_eq_true, Nat.reduceAdd, decide_true, decide_false, binop_add, binop_sub, Bool.and_true, Bool.true_and, Bool.and_false, Bool.false_and, Bool.or_false, Bool.or_true, Bool.true_or, Bool.false_or, List.isEmpty_cons, List.isEmpty_nil, Bool.not_true, Bool.not_false, and_true, true_and, and_self, ne_eq, not_false_eq_true, List.length_map, cmpint, hc])
    | false =>
      refine ⟨_, exs_nxt (eappend (ds := il ((List.range k).map (cnt fs))) (d := .int (cnt fs k)) rfl (by exact (set_ne rfl h1)) ⟨rfl, rfl, rfl, rfl⟩ (by simp [il]; omega) (by exact (v_name (set_ne rfl h2)))) (exs_one (eif_f rfl (by exact (t_name (set_ne rfl set_eq) (r_bool rfl))) exs_nil) (by decide)), ?_, ?_⟩
      · exact set_eq
      · exact Eq.trans (set_ne rfl (set_ne rfl h2)) (by simp only [List.length_cons, List.length_nil, if_true, if_false, reduceIte, reduceCtorEq, Option.map_some, Option.map_none, Int.reduceLE, Int.reduceLT, Int.reduceToNat, List.getElem?_cons_zero, List.getElem?_cons_succ, cmp1i, cmp1in, Bool.false_eq_true, or_false, or_true, true_or, false_or, beq_self_eq_true, Nat.reduceAdd, decide_true, decide_false, binop_add, binop_sub, Bool.and_true, Bool.true_and, Bool.and_false, Bool.false_and, Bool.or_false, Bool.or_true, Bool.true_or, Bool.false_or, List.isEmpty_cons, List.isEmpty_nil, Bool.not_true, Bool.not_false, and_true, true_and, and_self, ne_eq, not_false_eq_true, List.length_map, cmpint, hc, h2])
  · rw [List.length_map] at h1 h2
    refine exs_nxt (eappend (ds := il ((List.range fs.length).map (cnt fs))) (d := .int (cnt fs fs.length)) rfl (by exact h1) ⟨rfl, rfl, rfl, rfl⟩ (by simp [il]; omega) (by exact (v_name h2))) (exs_ret ?_)
    (refine Eq.trans (x_retz rfl (v_name (fr_in rfl set_eq))) ?_; try simp only [List.length_cons, List.length_nil, if_true, if_false, reduceIte, reduceCtorEq, Option.map_some, Option.map_none, Int.reduceLE, Int.reduceLT, Int.reduceToNat, List.getElem?_cons_zero, List.getElem?_cons_succ, cmp1i, cmp1in, Bool.false_eq_true, or_false, or_true, true_or, false_or, beq_self_eq_true, Nat.reduceAdd, decide_true, decide_false, binop_add, binop_sub, Bool.and_true, Bool.true_and, Bool.and_false, Bool.false_and, Bool.or_false, Bool.or_true, Bool.true_or, Bool.false_or, List.isEmpty_cons, List.isEmpty_nil, Bool.not_true, Bool.not_false, and_true, true_and, and_self, ne_eq, not_false_eq_true, List.length_map, cmpint])
    simp [placesOf, il, List.range_succ]
end
section
set_option maxRecDepth 100000
set_option linter.unusedVariables false
set_option linter.unusedSimpArgs false

noncomputable def at_ (P : List Int) (g : Int) : Int := (P[g.toNat]?).getD 0
noncomputable def inR (m : Nat) (g : Int) : Prop := 0 ≤ g ∧ g < m
theorem idx_il {P : List Int} {g : Int} (h : inR P.length g) : index (.list (il P)) (.int g) = .ok (.int (at_ P g)) := by
  obtain ⟨k, rfl⟩ := Int.eq_ofNat_of_zero_le h.1
  have hk : k < P.length := by have := h.2; omega
  refine idx_list ?_
  simp [il, at_, List.getElem?_eq_getElem hk]

noncomputable def goalsR : Row → List Int
  | .sw ts => ts
  | .pl op n => if isBr op then [n] else []
noncomputable def mvRow (P : List Int) : Row → Row
  | .sw ts => .sw (ts.map (at_ P))
  | .pl op n => if isBr op then .pl op (at_ P n) else .pl op n
noncomputable def mvCl (P : List Int) (c : Cl) : Cl := ⟨c.s, at_ P c.a, at_ P c.b, at_ P c.c, at_ P c.d, if c.s == 1 then at_ P c.e else c.e⟩
noncomputable def Row.wf : Row → Prop
  | .sw ts => ts.length ≤ 90
  | .pl op _ => op ≠ 69

theorem getE {α : Type} {xs : List α} {k : Nat} {a : α} (h : xs[k]? = some a) : k < xs.length := by
  by_cases q : k < xs.length
  · exact q
  · rw [List.getElem?_eq_none (by omega)] at h; cases h

theorem sem_move_targets (T : Tab) {φb : List PyData → Res PyData} (c1 : T.consts "OP_SWITCH" = some 69) (hb : T.funs "is_branch" = some φb) (hφ : ∀ op, φb [.int op] = .ok (.bool (isBr op))) (r : Row) (P : List Int) (wf : r.wf) (hg : ∀ g ∈ goalsR r, inR P.length g) :
    runDef T frz fuel F_move_targets.1.scope ["ins", "places"] (bodyOf F_move_targets.1) [row r, .list (il P)] = .ok (row (mvRow P r)) := by
  refine run_ret rfl ?_
  simp only [F_move_targets, bodyOf, fuel, bindV_cons, bindV_nil, isGlob]
  cases r with
  | sw ts =>
    simp only [row]
    refine exs_ret (eif_t rfl (by exact (t_cmp (v_sub rfl (b_name set_eq) v_int rfl) (h_one (b_glob (set_ne rfl (set_ne rfl emp_eq)) rfl c1) (m_eq rfl)))) ?_)
    refine exs_nxt (by exact (x_set0 rfl rfl)) ?_
    refine xfor_app (out := "out") (ds := il ts) (fun d => match d with | .int g => .int (at_ P g) | d => d) (fun Γ => Γ "places" = some (.list (il P), false) ∧ Γ "ins" = some (.tuple [.int 69, .tuple (il ts)], false) ∧ Γ "tuple" = none) rfl rfl (by exact (o_else rfl (v_sub rfl (b_name (set_ne rfl set_eq)) v_int rfl) rfl))
      (by exact set_eq) ⟨by exact (set_ne rfl (set_ne rfl set_eq)), by exact (set_ne rfl set_eq), by exact (set_ne rfl (set_ne rfl (set_ne rfl emp_eq)))⟩ (fun k d Γ es hk hl h1 ⟨h2, h3, h4⟩ => ?_) fun Γ' h1 ⟨h2, h3, h4⟩ => ?_
    · have hkl := getE hk
      rw [show (il ts)[k]? = (ts[k]?).map .int by simp [il]] at hk
      obtain ⟨g, hg', rfl⟩ := Option.map_eq_some_iff.mp hk
      have hi := idx_il (hg g (List.mem_of_getElem? hg'))
      have h100 : ts.length ≤ 90 := wf
      refine go_nxt (eappend (ds := es) (d := .int (at_ P g)) rfl (by exact (set_ne rfl h1)) ⟨rfl, rfl, rfl, rfl⟩ (by simp [il] at hkl; omega) (by exact (v_sub rfl (b_name (set_ne rfl h2)) (v_name set_eq) hi))) (go_nil ⟨?_, ?_, ?_, ?_⟩)
      · exact set_eq
      · exact (set_ne rfl (set_ne rfl h2))
      · exact (set_ne rfl (set_ne rfl h3))
      · exact (set_ne rfl (set_ne rfl h4))
    · refine exs_ret ?_
      have hm : (il ts).map (fun d => match d with | .int g => .int (at_ P g) | d => d) = il (ts.map (at_ P)) := by simp [il, List.map_map]
      rw [hm] at h1
      exact Eq.trans (x_ret rfl (v_tup (s_cons (v_sub rfl (b_name h3) v_int rfl) (s_cons (v_call h4 rfl (c_tuple rfl (b_name h1) u_tup)) s_nil)) rfl)) (by simp only [List.length_cons, List.length_nil, if_true, if_false, reduceIte, reduceCtorEq, Option.map_some, Option.map_none, Int.reduceLE, Int.reduceLT, Int.reduceToNat, List.getElem?_cons_zero, List.getElem?_cons_succ, cmp1i, cmp1in, Bool.false_eq_true, or_false, or_true, true_or, false_or, beq_self_eq_true, Nat.reduceAdd, decide_true, decide_false, binop_add, binop_sub, Bool.and_true, Bool.true_and, Bool.and_false, Bool.false_and, Bool.or_false, Bool.or_true, Bool.true_or, Bool.false_or, List.isEmpty_cons, List.isEmpty_nil, Bool.not_true, Bool.not_false, and_true, true_and, and_self, ne_eq, not_false_eq_true, List.length_map, cmpint, h1, h3, h4, mvRow, row])
  | pl op n =>
    simp only [row]
    have hop : (op == 69) = false := by have q : op ≠ 69 := wf; simpa using q
    refine exs_nxt (eif_f rfl (by exact (t_cmp (v_sub rfl (b_name set_eq) v_int rfl) (h_one (b_glob (set_ne rfl (set_ne rfl emp_eq)) rfl c1) (m_eq hop)))) exs_nil) ?_
    cases hbr : isBr op with
    | true =>
      have hi := idx_il (hg n (by simp [goalsR, hbr]))
      refine exs_ret (eif_t rfl (by exact (t_else rfl (v_call (set_ne rfl (set_ne rfl emp_eq)) rfl (c_fun hb rfl (s_cons (v_sub rfl (b_name set_eq) v_int rfl) s_nil) (hφ _))) (r_bool hbr))) (exs_ret ?_))
      exact Eq.trans (x_ret rfl (v_tup (s_cons (v_sub rfl (b_name set_eq) v_int rfl) (s_cons (v_sub rfl (b_name (set_ne rfl set_eq)) (v_sub rfl (b_name set_eq) v_int rfl) hi) s_nil)) rfl)) (by simp only [List.length_cons, List.length_nil, if_true, if_false, reduceIte, reduceCtorEq, Option.map_some, Option.map_none, Int.reduceLE, Int.reduceLT, Int.reduceToNat, List.getElem?_cons_zero, List.getElem?_cons_succ, cmp1i, cmp1in, Bool.false_eq_true, or_false, or_true, true_or, false_or, beq_self_eq_true, Nat.reduceAdd, decide_true, decide_false, binop_add, binop_sub, Bool.and_true, Bool.true_and, Bool.and_false, Bool.false_and, Bool.or_false, Bool.or_true, Bool.true_or, Bool.false_or, List.isEmpty_cons, List.isEmpty_nil, Bool.not_true, Bool.not_false, and_true, true_and, and_self, ne_eq, not_false_eq_true, List.length_map, cmpint, hi, mvRow, row, hbr])
    | false =>
      refine exs_nxt (eif_f rfl (by exact (t_else rfl (v_call (set_ne rfl (set_ne rfl emp_eq)) rfl (c_fun hb rfl (s_cons (v_sub rfl (b_name set_eq) v_int rfl) s_nil) (hφ _))) (r_bool hbr))) exs_nil) (exs_ret ?_)
      exact Eq.trans (x_ret rfl (v_name set_eq)) (by simp only [List.length_cons, List.length_nil, if_true, if_false, reduceIte, reduceCtorEq, Option.map_some, Option.map_none, Int.reduceLE, Int.reduceLT, Int.reduceToNat, List.getElem?_cons_zero, List.getElem?_cons_succ, cmp1i, cmp1in, Bool.false_eq_true, or_false, or_true, true_or, false_or, beq_self_eq_true, Nat.reduceAdd, decide_true, decide_false, binop_add, binop_sub, Bool.and_true, Bool.true_and, Bool.and_false, Bool.false_and, Bool.or_false, Bool.or_true, Bool.true_or, Bool.false_or, List.isEmpty_cons, List.isEmpty_nil, Bool.not_true, Bool.not_false, and_true, true_and, and_self, ne_eq, not_false_eq_true, List.length_map, cmpint, mvRow, row, hbr])

theorem sem_move_clause (T : Tab) (c1 : T.consts "EC_FILTER" = some 1) (c : Cl) (P : List Int) (hg : ∀ g ∈ edgesOf c, inR P.length g) :
    runDef T frz fuel F_move_clause.1.scope ["clause", "places"] (bodyOf F_move_clause.1) [cl c, .list (il P)] = .ok (cl (mvCl P c)) := by
  refine run_ret rfl ?_
  simp only [F_move_clause, bodyOf, fuel, bindV_cons, bindV_nil, isGlob]
  refine exs_nxt (by exact (x_set rfl rfl rfl (v_sub rfl (b_name set_eq) v_int rfl))) ?_
  have ga := idx_il (hg c.a (by unfold edgesOf; split <;> simp))
  have gb := idx_il (hg c.b (by unfold edgesOf; split <;> simp))
  have gc := idx_il (hg c.c (by unfold edgesOf; split <;> simp))
  have gd := idx_il (hg c.d (by unfold edgesOf; split <;> simp))
  cases hs : (c.s == 1) with
  | true =>
    have ge := idx_il (hg c.e (by unfold edgesOf; rw [hs]; simp))
    refine exs_nxt (eif_t rfl (by exact (t_cmp (v_sub rfl (b_name (set_ne rfl set_eq)) v_int rfl) (h_one (b_glob (set_ne rfl (set_ne rfl (set_ne rfl emp_eq))) rfl c1) (m_eq hs)))) (exs_nxt (by exact (x_set rfl rfl rfl (v_sub rfl (b_name (set_ne rfl (set_ne rfl set_eq))) (v_name set_eq) ge))) exs_nil)) (exs_ret ?_)
    exact Eq.trans (x_ret rfl (v_tup (s_cons (v_sub rfl (b_name (set_ne rfl (set_ne rfl set_eq))) v_int rfl) (s_cons (v_sub rfl (b_name (set_ne rfl (set_ne rfl (set_ne rfl set_eq)))) (v_sub rfl (b_name (set_ne rfl (set_ne rfl set_eq))) v_int rfl) ga) (s_cons (v_sub rfl (b_name (set_ne rfl (set_ne rfl (set_ne rfl set_eq)))) (v_sub rfl (b_name (set_ne rfl (set_ne rfl set_eq))) v_int rfl) gb) (s_cons (v_sub rfl (b_name (set_ne rfl (set_ne rfl (set_ne rfl set_eq)))) (v_sub rfl (b_name (set_ne rfl (set_ne rfl set_eq))) v_int rfl) gc) (s_cons (v_sub rfl (b_name (set_ne rfl (set_ne rfl (set_ne rfl set_eq)))) (v_sub rfl (b_name (set_ne rfl (set_ne rfl set_eq))) v_int rfl) gd) (s_cons (v_name set_eq) s_nil)))))) rfl)) (by simp only [List.length_cons, List.length_nil, if_true, if_false, reduceIte, reduceCtorEq, Option.map_some, Option.map_none, Int.reduceLE, Int.reduceLT, Int.reduceToNat, List.getElem?_cons_zero, List.getElem?_cons_succ, cmp1i, cmp1in, Bool.false_eq_true, or_false, or_true, true_or, false_or, beq_self_eq_true, Nat.reduceAdd, decide_true, decide_false, binop_add, binop_sub, Bool.and_true, Bool.true_and, Bool.and_false, Bool.false_and, Bool.or_false, Bool.or_true, Bool.true_or, Bool.false_or, List.isEmpty_cons, List.isEmpty_nil, Bool.not_true, Bool.not_false, and_true, true_and, and_self, ne_eq, not_false_eq_true, List.length_map, cmpint, ga, gb, gc, gd, mvCl, hs, cl])
  | false =>
    refine exs_nxt (eif_f rfl (by exact (t_cmp (v_sub rfl (b_name (set_ne rfl set_eq)) v_int rfl) (h_one (b_glob (set_ne rfl (set_ne rfl (set_ne rfl emp_eq))) rfl c1) (m_eq hs)))) exs_nil) (exs_ret ?_)
    exact Eq.trans (x_ret rfl (v_tup (s_cons (v_sub rfl (b_name (set_ne rfl set_eq)) v_int rfl) (s_cons (v_sub rfl (b_name (set_ne rfl (set_ne rfl set_eq))) (v_sub rfl (b_name (set_ne rfl set_eq)) v_int rfl) ga) (s_cons (v_sub rfl (b_name (set_ne rfl (set_ne rfl set_eq))) (v_sub rfl (b_name (set_ne rfl set_eq)) v_int rfl) gb) (s_cons (v_sub rfl (b_name (set_ne rfl (set_ne rfl set_eq))) (v_sub rfl (b_name (set_ne rfl set_eq)) v_int rfl) gc) (s_cons (v_sub rfl (b_name (set_ne rfl (set_ne rfl set_eq))) (v_sub rfl (b_name (set_ne rfl set_eq)) v_int rfl) gd) (s_cons (v_name set_eq) s_nil)))))) rfl)) (by simp only [List.length_cons, List.length_nil, if_true, if_false, reduceIte, reduceCtorEq, Option.map_some, Option.map_none, Int.reduceLE, Int.reduceLT, Int.reduceToNat, List.getElem?_cons_zero, List.getElem?_cons_succ, cmp1i, cmp1in, Bool.false_eq_true, or_false, or_true, true_or, false_or, beq_self_eq_true, Nat.reduceAdd, decide_true, decide_false, binop_add, binop_sub, Bool.and_true, Bool.true_and, Bool.and_false, Bool.false_and, Bool.or_false, Bool.or_true, Bool.true_or, Bool.false_or, List.isEmpty_cons, List.isEmpty_nil, Bool.not_true, Bool.not_false, and_true, true_and, and_self, ne_eq, not_false_eq_true, List.length_map, cmpint, ga, gb, gc, gd, mvCl, hs, cl])

noncomputable def keepR (P : List Int) (rs : List Row) (fs : List Bool) : List Row := ((rs.zip fs).filter (·.2)).map fun p => mvRow P p.1
theorem sem_keep_only (T : Tab) {φn φt φc : List PyData → Res PyData} (hn : T.funs "new_places" = some φn) (ht : T.funs "move_targets" = some φt) (hc : T.funs "move_clause" = some φc) (rs : List Row) (cs : List Cl) (fs : List Bool) (hl : rs.length = fs.length) (hz : rs.length ≤ 900) (hzc : cs.length ≤ 900)
    (hφn : φn [.list (fs.map .bool)] = .ok (.list (il (placesOf fs)))) (hφt : ∀ r ∈ rs, φt [row r, .list (il (placesOf fs))] = .ok (row (mvRow (placesOf fs) r))) (hφc : ∀ c ∈ cs, φc [cl c, .list (il (placesOf fs))] = .ok (cl (mvCl (placesOf fs) c))) :
    runDef T frz fuel F_keep_only.1.scope ["code", "clauses", "kept"] (bodyOf F_keep_only.1) [rws rs, cls cs, .list (fs.map .bool)] = .ok (.tuple [rws (keepR (placesOf fs) rs fs), cls (cs.map (mvCl (placesOf fs))), .list (il (placesOf fs))]) := by
  refine run_ret rfl ?_
  simp only [F_keep_only, bodyOf, fuel, bindV_cons, bindV_nil, isGlob]
  refine exs_nxt (by exact (x_set rfl rfl rfl (v_call (set_ne rfl (set_ne rfl (set_ne rfl emp_eq))) rfl (c_fun hn rfl (s_cons (v_name (set_ne rfl (set_ne rfl set_eq))) s_nil) hφn)))) ?_
  refine exs_nxt (by exact (x_set0 rfl rfl)) ?_
  refine xfor (ds := rangeD rs.length) (fun k Γ => Γ "out" = some (.list ((keepR (placesOf fs) (rs.take k) (fs.take k)).map row), true) ∧ Γ "code" = some (rws rs, false) ∧ Γ "clauses" = some (cls cs, false) ∧ Γ "kept" = some (.list (fs.map .bool), false) ∧
      Γ "places" = some (.list (il (placesOf fs)), false) ∧ Γ "move_targets" = none ∧ Γ "move_clause" = none) rfl rfl (evFor_range (by omega) (by exact (set_ne rfl (set_ne rfl (set_ne rfl (set_ne rfl (set_ne rfl emp_eq)))))) rfl (by exact (v_call (set_ne rfl (set_ne rfl (set_ne rfl (set_ne rfl (set_ne rfl emp_eq))))) rfl (c_len rfl (b_name (set_ne rfl (set_ne rfl set_eq))) u_lenr)))) ⟨by exact Eq.trans set_eq rfl, by exact (set_ne rfl (set_ne rfl set_eq)), by exact (set_ne rfl (set_ne rfl (set_ne rfl set_eq))), by exact (set_ne rfl (set_ne rfl (set_ne rfl (set_ne rfl set_eq)))), by exact (set_ne rfl set_eq), by exact (set_ne rfl (set_ne rfl (set_ne rfl (set_ne rfl (set_ne rfl emp_eq))))), by exact (set_ne rfl (set_ne rfl (set_ne rfl (set_ne rfl (set_ne rfl emp_eq)))))⟩
      (fun k d Γ hk ⟨h1, h2, h3, h4, h5, h6, h7⟩ => ?_) fun Γ' ⟨h1, h2, h3, h4, h5, h6, h7⟩ => ?_
  · have hkl := getE hk
    rw [rangeD_length, Int.toNat_natCast] at hkl
    rw [rangeD_get (by rw [Int.toNat_natCast]; exact hkl)] at hk
    cases hk
    obtain ⟨b, hb⟩ : ∃ b, fs[k]? = some b := ⟨fs[k]'(by omega), by simp⟩
    obtain ⟨r, hr⟩ : ∃ r, rs[k]? = some r := ⟨rs[k], by simp⟩
    have i1 : index (.list (fs.map .bool)) (.int k) = .ok (.bool b) := idx_list (by simp [hb])
    have i2 : index (.list (rs.map row)) (.int k) = .ok (row r) := idx_list (by simp [hr])
    have hφ := hφt r (List.mem_of_getElem? hr)
    have hlen : ((keepR (placesOf fs) (rs.take k) (fs.take k)).map row).length ≤ 1000 := by
      rw [List.length_map, keepR, List.length_map]
      refine Nat.le_trans (List.length_filter_le _ _) ?_
      rw [List.length_zip]; simp; omega
    refine go_if_app (c := b) (ds := (keepR (placesOf fs) (rs.take k) (fs.take k)).map row) (d := row (mvRow (placesOf fs) r)) rfl rfl (by exact (t_else rfl (v_sub rfl (b_name (set_ne rfl h4)) (v_name set_eq) i1) (r_bool rfl))) (by exact (set_ne rfl h1)) ⟨rfl, rfl, rfl, rfl⟩ hlen (fun _ => by exact (v_call (set_ne rfl h6) rfl (c_fun ht rfl (s_cons (v_sub rfl (b_name (set_ne rfl h2)) (v_name set_eq) i2) (s_cons (v_name (set_ne rfl h5)) s_nil)) hφ))) fun Γ' e1 e2 => go_nil ⟨?_, ?_, ?_, ?_, ?_, ?_, ?_⟩
    · rw [e1]
      have : rs.take (k + 1) = rs.take k ++ [r] := by rw [List.take_add_one, hr]; rfl
      have : fs.take (k + 1) = fs.take k ++ [b] := by rw [List.take_add_one, hb]; rfl
      rw [‹rs.take (k + 1) = _›, this]
      unfold keepR
      rw [List.zip_append (by simp; omega), List.filter_append, List.map_append, List.map_append]
      cases b <;> simp
    all_goals (rw [e2 _ (by exact (nm_ne rfl))]; (first | exact (set_ne rfl h2) | exact (set_ne rfl h3) | exact (set_ne rfl h4) | exact (set_ne rfl h5) | exact (set_ne rfl h6) | exact (set_ne rfl h7)))
  · refine exs_nxt (by exact (x_set0 rfl rfl)) ?_
    rw [rangeD_length, Int.toNat_natCast] at h1
    rw [List.take_length, hl, List.take_length] at h1
    refine xfor_app (out := "edges") (ds := cs.map cl) (fun d => match φc [d, .list (il (placesOf fs))] with | .ok e => e | _ => d) (fun Γ => Γ "out" = some (.list ((keepR (placesOf fs) rs fs).map row), true) ∧ Γ "places" = some (.list (il (placesOf fs)), false) ∧ Γ "move_clause" = none) rfl rfl (by exact (o_name (set_ne rfl h3) rfl))
      (by exact set_eq) ⟨by exact (set_ne rfl h1), by exact (set_ne rfl h5), by exact (set_ne rfl h7)⟩ (fun k d Γ es hk hl' g1 ⟨g2, g3, g4⟩ => ?_) fun Γ' g1 ⟨g2, g3, g4⟩ => ?_
    · have hkl := getE hk
      rw [List.getElem?_map] at hk
      obtain ⟨c, hc', rfl⟩ := Option.map_eq_some_iff.mp hk
      have hφ := hφc c (List.mem_of_getElem? hc')
      refine go_nxt (eappend (ds := es) (d := cl (mvCl (placesOf fs) c)) rfl (by exact (set_ne rfl g1)) ⟨rfl, rfl, rfl, rfl⟩ (by simp at hkl; omega) (by exact (v_call (set_ne rfl g4) rfl (c_fun hc rfl (s_cons (v_name set_eq) (s_cons (v_name (set_ne rfl g3)) s_nil)) hφ)))) (go_nil ⟨?_, ?_, ?_, ?_⟩)
      · exact Eq.trans set_eq (by simp only [List.length_cons, List.length_nil, if_true, if_false, reduceIte, reduceCtorEq, Option.map_some, Option.map_none, Int.reduceLE, Int.reduceLT, Int.reduceToNat, List.getElem?_cons_zero, List.getElem?_cons_succ, cmp1i, cmp1in, Bool.false_eq_true, or_false, or_true, true_or, false_or, beq_self_eq_true, Nat.reduceAdd, decide_true, decide_false, binop_add, binop_sub, Bool.and_true, Bool.true_and, Bool.and_false, Bool.false_and, Bool.or_false, Bool.or_true, Bool.true_or, Bool.false_or, List.isEmpty_cons, List.isEmpty_nil, Bool.not_true, Bool.not_false, and_true, true_and, and_self, ne_eq, not_false_eq_true, List.length_map, cmpint, hφ])
      · exact (set_ne rfl (set_ne rfl g2))
      · exact (set_ne rfl (set_ne rfl g3))
      · exact (set_ne rfl (set_ne rfl g4))
    · refine exs_ret ?_
      have hm : (cs.map cl).map (fun d => match φc [d, .list (il (placesOf fs))] with | .ok e => e | _ => d) = (cs.map (mvCl (placesOf fs))).map cl := by
        rw [List.map_map, List.map_map]
        refine List.map_congr_left fun c hc' => ?_
        simp only [Function.comp, hφc c hc']
      rw [hm] at g1
      exact (x_retz rfl (v_tup (s_cons (v_name (fr_in rfl g2)) (s_cons (v_name (fr_in rfl g1)) (s_cons (v_name (fr_out rfl g3)) s_nil))) rfl))
end
section
set_option maxRecDepth 100000
set_option linter.unusedVariables false
set_option linter.unusedSimpArgs false

noncomputable def keyAt (p : Int) (c : Cl) (i : Int) : List Int :=
  (if decide (c.a ≤ i) && decide (i < c.b) then [3 * p] else []) ++ ((if c.s == 1 && (decide (c.e ≤ i) && decide (i < c.c)) then [3 * p + 1] else []) ++ (if decide (c.c ≤ i) && decide (i < c.d) then [3 * p + 2] else []))
noncomputable def keyUp (cs : List Cl) (i : Int) (k : Nat) : List Int := (List.range k).flatMap fun (p : Nat) => match cs[p]? with | some c => keyAt (p : Int) c i | none => []
noncomputable def keyOf (cs : List Cl) (i : Int) : List Int := keyUp cs i cs.length
theorem il_key (l : List Int) (p : Int) (c : Cl) (i : Int) : il (l ++ keyAt p c i) = ((il l ++ if decide (c.a ≤ i) && decide (i < c.b) then [.int (3 * p)] else []) ++ if c.s == 1 && (decide (c.e ≤ i) && decide (i < c.c)) then [.int (3 * p + 1)] else []) ++ if decide (c.c ≤ i) && decide (i < c.d) then [.int (3 * p + 2)] else [] := by
  unfold keyAt il
  rw [List.map_append]
  split <;> split <;> split <;> simp
theorem keyUp_succ {cs : List Cl} {i : Int} {k : Nat} {c : Cl} (h : cs[k]? = some c) : keyUp cs i (k + 1) = keyUp cs i k ++ keyAt k c i := by
  unfold keyUp
  rw [List.range_succ, List.flatMap_append]
  simp [h]
theorem keyUp_len (cs : List Cl) (i : Int) : ∀ k, (keyUp cs i k).length ≤ 3 * k
  | 0 => by simp [keyUp]
  | k + 1 => by
    have ih := keyUp_len cs i k
    unfold keyUp at ih ⊢
    rw [List.range_succ, List.flatMap_append, List.length_append]
    have : ([k].flatMap fun (p : Nat) => match cs[p]? with | some c => keyAt (p : Int) c i | none => []).length ≤ 3 := by
      simp only [List.flatMap_cons, List.flatMap_nil, List.append_nil]
      split
      · unfold keyAt; simp only [List.length_append]; repeat' split <;> simp
      · simp
    omega

theorem fits_nat {k : Nat} (h : k ≤ 1000) : fits (k : Int) = true := by
  unfold fits big
  have a : (-9223372036854775808 : Int) < k := by omega
  have b : (k : Int) < 9223372036854775808 := by omega
  rw [decide_eq_true a, decide_eq_true b]; rfl
theorem mul3 {k : Int} (h : fits k = true) : binop .Mult (.int 3) (.int k) = .ok (.int (3 * k)) := by
  show Res.guard (fits 3 && fits k) _ = _
  rw [h, show fits 3 = true from by decide]; rfl

section
variable {T : Tab} {n : Nat} {sc : Scope} {Γ : Vars} {x : Str} {k c : Int} {p1 p2 p3 p4 p5 : Pos} {i1 i2 : Nat}
theorem ev_mul3 (h : Γ x = some (.int k, false)) (hf : fits k = true) : ev T (n + 2) sc Γ (.BinOp (.Constant (.int 3) i1 p1) .Mult (.Name x p2) p3) = .ok (.int (3 * k)) := by
  exact v_bin v_int (v_name h) (mul3 hf)
theorem ev_addc {e : Expr} {a : Int} (h : ev T (n + 1) sc Γ e = .ok (.int a)) : ev T (n + 2) sc Γ (.BinOp e .Add (.Constant (.int c) i2 p4) p5) = .ok (.int (a + c)) := by
  exact v_bin h v_int rfl
end

theorem sem_region_key (T : Tab) (c1 : T.consts "EC_FILTER" = some 1) (cs : List Cl) (i : Int) (hz : cs.length ≤ 100) :
    runDef T frz fuel F_region_key.1.scope ["clauses", "i"] (bodyOf F_region_key.1) [cls cs, .int i] = .ok (tup (keyOf cs i)) := by
  refine run_ret rfl ?_
  simp only [F_region_key, bodyOf, fuel, bindV_cons, bindV_nil, isGlob]
  refine exs_nxt (by exact (x_set0 rfl rfl)) ?_
  refine xfor (ds := rangeD cs.length) (fun k Γ => Γ "out" = some (.list (il (keyUp cs i k)), true) ∧ Γ "clauses" = some (cls cs, false) ∧ Γ "i" = some (.int i, false) ∧ Γ "EC_FILTER" = none ∧ Γ "tuple" = none) rfl rfl
    (evFor_range (by omega) (by exact (set_ne rfl (set_ne rfl (set_ne rfl emp_eq)))) rfl (by exact (v_call (set_ne rfl (set_ne rfl (set_ne rfl emp_eq))) rfl (c_len rfl (b_name (set_ne rfl set_eq)) u_lenc)))) ⟨by exact Eq.trans set_eq (by simp only [List.length_cons, List.length_nil, if_true, if_false, reduceIte, reduceCtorEq, Option.map_some, Option.map_none, Int.reduceLE, Int.reduceLT, Int.reduceToNat, List.getElem?_cons_zero, List.getElem?_cons_succ, cmp1i, cmp1in, Bool.false_eq_true, or_false, or_true, true_or, false_or, beq_self_eq_true, Nat.reduceAdd, decide_true, decide_false, binop_add, binop_sub, Bool.and_true, Bool.true_and, Bool.and_false, Bool.false_and, Bool.or_false, Bool.or_true, Bool.true_or, Bool.false_or, List.isEmpty_cons, List.isEmpty_nil, Bool.not_true, Bool.not_false, and_true, true_and, and_self, ne_eq, not_false_eq_true, List.length_map, cmpint, keyUp, List.range_zero, List.flatMap_nil, il, List.map_nil]), by exact (set_ne rfl set_eq), by exact (set_ne rfl (set_ne rfl set_eq)), by exact (set_ne rfl (set_ne rfl (set_ne rfl emp_eq))), by exact (set_ne rfl (set_ne rfl (set_ne rfl emp_eq)))⟩ (fun k d Γ hk ⟨h1, h2, h3, h4, h5⟩ => ?_) fun Γ' ⟨h1, h2, h3, h4, h5⟩ => ?_
  · have hkl := getE hk
    rw [rangeD_length, Int.toNat_natCast] at hkl
    rw [rangeD_get (by rw [Int.toNat_natCast]; exact hkl)] at hk
    cases hk
    obtain ⟨c, hc⟩ : ∃ c, cs[k]? = some c := ⟨cs[k], by simp⟩
    have i1 : index (.list (cs.map cl)) (.int k) = .ok (cl c) := idx_list (by simp [hc])
    have hL := keyUp_len cs i k
    have hm := fits_nat (k := k) (by omega)
    have hS := keyUp_succ (i := i) hc
    rw [hS]
    refine go_nxt (by exact (x_set rfl rfl rfl (v_sub rfl (b_name (set_ne rfl h2)) (v_name set_eq) i1))) ?_
    refine go_if_app (c := decide (c.a ≤ i) && decide (i < c.b)) (ds := il (keyUp cs i k)) (d := .int (3 * (k : Int))) rfl rfl ?_ (by exact (set_ne rfl (set_ne rfl h1))) ⟨rfl, rfl, rfl, rfl⟩ (by simp [il]; omega) (fun _ => ?_) fun Γ1 a1 a2 => ?_
    · cases ha : decide (c.a ≤ i) <;> cases hb : decide (i < c.b) <;> (first | exact Eq.trans (t_all (a_and (t_cmp (v_sub rfl (b_name set_eq) v_int rfl) (h_one (b_name (set_ne rfl (set_ne rfl h3))) (m_le ha))) (and_f rfl))) (by simp only [List.length_cons, List.length_nil, if_true, if_false, reduceIte, reduceCtorEq, Option.map_some, Option.map_none, Int.reduceLE, Int.reduceLT, Int.reduceToNat, List.getElem?_cons_zero, List.getElem?_cons_succ, cmp1i, cmp1in, Bool.false_eq_true, or_false, or_true, true_or, false_or, beq_self_eq_true, Nat.reduceAdd, decide_true, decide_false, binop_add, binop_sub, Bool.and_true, Bool.true_and, Bool.and_false, Bool.false_and, Bool.or_false, Bool.or_true, Bool.true_or, Bool.false_or, List.isEmpty_cons, List.isEmpty_nil, Bool.not_true, Bool.not_false, and_true, true_and, and_self, ne_eq, not_false_eq_true, List.length_map, cmpint, cl, h3, ha, hb]) | exact Eq.trans (t_all (a_and (t_cmp (v_sub rfl (b_name set_eq) v_int rfl) (h_one (b_name (set_ne rfl (set_ne rfl h3))) (m_le ha))) (and_t rfl (a_and (t_cmp (v_name (set_ne rfl (set_ne rfl h3))) (h_one (b_else rfl (v_sub rfl (b_name set_eq) v_int rfl)) (m_lt hb))) (and_f rfl))))) (by simp only [List.length_cons, List.length_nil, if_true, if_false, reduceIte, reduceCtorEq, Option.map_some, Option.map_none, Int.reduceLE, Int.reduceLT, Int.reduceToNat, List.getElem?_cons_zero, List.getElem?_cons_succ, cmp1i, cmp1in, Bool.false_eq_true, or_false, or_true, true_or, false_or, beq_self_eq_true, Nat.reduceAdd, decide_true, decide_false, binop_add, binop_sub, Bool.and_true, Bool.true_and, Bool.and_false, Bool.false_and, Bool.or_false, Bool.or_true, Bool.true_or, Bool.false_or, List.isEmpty_cons, List.isEmpty_nil, Bool.not_true, Bool.not_false, and_true, true_and, and_self, ne_eq, not_false_eq_true, List.length_map, cmpint, cl, h3, ha, hb]) | exact Eq.trans (t_all (a_and (t_cmp (v_sub rfl (b_name set_eq) v_int rfl) (h_one (b_name (set_ne rfl (set_ne rfl h3))) (m_le ha))) (and_t rfl (a_and (t_cmp (v_name (set_ne rfl (set_ne rfl h3))) (h_one (b_else rfl (v_sub rfl (b_name set_eq) v_int rfl)) (m_lt hb))) (and_t rfl a_nila))))) (by simp only [List.length_cons, List.length_nil, if_true, if_false, reduceIte, reduceCtorEq, Option.map_some, Option.map_none, Int.reduceLE, Int.reduceLT, Int.reduceToNat, List.getElem?_cons_zero, List.getElem?_cons_succ, cmp1i, cmp1in, Bool.false_eq_true, or_false, or_true, true_or, false_or, beq_self_eq_true, Nat.reduceAdd, decide_true, decide_false, binop_add, binop_sub, Bool.and_true, Bool.true_and, Bool.and_false, Bool.false_and, Bool.or_false, Bool.or_true, Bool.true_or, Bool.false_or, List.isEmpty_cons, List.isEmpty_nil, Bool.not_true, Bool.not_false, and_true, true_and, and_self, ne_eq, not_false_eq_true, List.length_map, cmpint, cl, h3, ha, hb]))
    · exact ev_mul3 (by exact (set_ne rfl set_eq)) hm
    refine go_if_app (c := c.s == 1 && (decide (c.e ≤ i) && decide (i < c.c))) (ds := il (keyUp cs i k) ++ if decide (c.a ≤ i) && decide (i < c.b) then [.int (3 * (k : Int))] else []) (d := .int (3 * (k : Int) + 1)) rfl rfl ?_ a1 ⟨rfl, rfl, rfl, rfl⟩ ?_ (fun _ => ?_) fun Γ2 b1 b2 => ?_
    · cases hs : (c.s == 1) <;> cases ha : decide (c.e ≤ i) <;> cases hb : decide (i < c.c) <;> (first | exact Eq.trans (t_all (a_and (t_cmp (v_sub rfl (b_name (al a2 rfl set_eq)) v_int rfl) (h_one (b_glob (al a2 rfl (set_ne rfl (set_ne rfl h4))) rfl c1) (m_eq hs))) (and_f rfl))) (by simp only [List.length_cons, List.length_nil, if_true, if_false, reduceIte, reduceCtorEq, Option.map_some, Option.map_none, Int.reduceLE, Int.reduceLT, Int.reduceToNat, List.getElem?_cons_zero, List.getElem?_cons_succ, cmp1i, cmp1in, Bool.false_eq_true, or_false, or_true, true_or, false_or, beq_self_eq_true, Nat.reduceAdd, decide_true, decide_false, binop_add, binop_sub, Bool.and_true, Bool.true_and, Bool.and_false, Bool.false_and, Bool.or_false, Bool.or_true, Bool.true_or, Bool.false_or, List.isEmpty_cons, List.isEmpty_nil, Bool.not_true, Bool.not_false, and_true, true_and, and_self, ne_eq, not_false_eq_true, List.length_map, cmpint, cl, a2, h3, h4, c1, ha, hb, hs]) | exact Eq.trans (t_all (a_and (t_cmp (v_sub rfl (b_name (al a2 rfl set_eq)) v_int rfl) (h_one (b_glob (al a2 rfl (set_ne rfl (set_ne rfl h4))) rfl c1) (m_eq hs))) (and_t rfl (a_and (t_cmp (v_sub rfl (b_name (al a2 rfl set_eq)) v_int rfl) (h_one (b_name (al a2 rfl (set_ne rfl (set_ne rfl h3)))) (m_le ha))) (and_f rfl))))) (by simp only [List.length_cons, List.length_nil, if_true, if_false, reduceIte, reduceCtorEq, Option.map_some, Option.map_none, Int.reduceLE, Int.reduceLT, Int.reduceToNat, List.getElem?_cons_zero, List.getElem?_cons_succ, cmp1i, cmp1in, Bool.false_eq_true, or_false, or_true, true_or, false_or, beq_self_eq_true, Nat.reduceAdd, decide_true, decide_false, binop_add, binop_sub, Bool.and_true, Bool.true_and, Bool.and_false, Bool.false_and, Bool.or_false, Bool.or_true, Bool.true_or, Bool.false_or, List.isEmpty_cons, List.isEmpty_nil, Bool.not_true, Bool.not_false, and_true, true_and, and_self, ne_eq, not_false_eq_true, List.length_map, cmpint, cl, a2, h3, h4, c1, ha, hb, hs]) | exact Eq.trans (t_all (a_and (t_cmp (v_sub rfl (b_name (al a2 rfl set_eq)) v_int rfl) (h_one (b_glob (al a2 rfl (set_ne rfl (set_ne rfl h4))) rfl c1) (m_eq hs))) (and_t rfl (a_and (t_cmp (v_sub rfl (b_name (al a2 rfl set_eq)) v_int rfl) (h_one (b_name (al a2 rfl (set_ne rfl (set_ne rfl h3)))) (m_le ha))) (and_t rfl (a_and (t_cmp (v_name (al a2 rfl (set_ne rfl (set_ne rfl h3)))) (h_one (b_else rfl (v_sub rfl (b_name (al a2 rfl set_eq)) v_int rfl)) (m_lt hb))) (and_f rfl))))))) (by simp only [List.length_cons, List.length_nil, if_true, if_false, reduceIte, reduceCtorEq, Option.map_some, Option.map_none, Int.reduceLE, Int.reduceLT, Int.reduceToNat, List.getElem?_cons_zero, List.getElem?_cons_succ, cmp1i, cmp1in, Bool.false_eq_true, or_false, or_true, true_or, false_or, beq_self_eq_true, Nat.reduceAdd, decide_true, decide_false, binop_add, binop_sub, Bool.and_true, Bool.true_and, Bool.and_false, Bool.false_and, Bool.or_false, Bool.or_true, Bool.true_or, Bool.false_or, List.isEmpty_cons, List.isEmpty_nil, Bool.not_true, Bool.not_false, and_true, true_and, and_self, ne_eq, not_false_eq_true, List.length_map, cmpint, cl, a2, h3, h4, c1, ha, hb, hs]) | exact Eq.trans (t_all (a_and (t_cmp (v_sub rfl (b_name (al a2 rfl set_eq)) v_int rfl) (h_one (b_glob (al a2 rfl (set_ne rfl (set_ne rfl h4))) rfl c1) (m_eq hs))) (and_t rfl (a_and (t_cmp (v_sub rfl (b_name (al a2 rfl set_eq)) v_int rfl) (h_one (b_name (al a2 rfl (set_ne rfl (set_ne rfl h3)))) (m_le ha))) (and_t rfl (a_and (t_cmp (v_name (al a2 rfl (set_ne rfl (set_ne rfl h3)))) (h_one (b_else rfl (v_sub rfl (b_name (al a2 rfl set_eq)) v_int rfl)) (m_lt hb))) (and_t rfl a_nila))))))) (by simp only [List.length_cons, List.length_nil, if_true, if_false, reduceIte, reduceCtorEq, Option.map_some, Option.map_none, Int.reduceLE, Int.reduceLT, Int.reduceToNat, List.getElem?_cons_zero, List.getElem?_cons_succ, cmp1i, cmp1in, Bool.false_eq_true, or_false, or_true, true_or, false_or, beq_self_eq_true, Nat.reduceAdd, decide_true, decide_false, binop_add, binop_sub, Bool.and_true, Bool.true_and, Bool.and_false, Bool.false_and, Bool.or_false, Bool.or_true, Bool.true_or, Bool.false_or, List.isEmpty_cons, List.isEmpty_nil, Bool.not_true, Bool.not_false, and_true, true_and, and_self, ne_eq, not_false_eq_true, List.length_map, cmpint, cl, a2, h3, h4, c1, ha, hb, hs]))
    · rw [List.length_append]; split <;> simp [il] <;> omega
    · exact ev_addc (ev_mul3 (by exact (al a2 rfl (set_ne rfl set_eq))) hm)
    refine go_if_app (c := decide (c.c ≤ i) && decide (i < c.d)) (ds := (il (keyUp cs i k) ++ if decide (c.a ≤ i) && decide (i < c.b) then [.int (3 * (k : Int))] else []) ++ if c.s == 1 && (decide (c.e ≤ i) && decide (i < c.c)) then [.int (3 * (k : Int) + 1)] else []) (d := .int (3 * (k : Int) + 2)) rfl rfl ?_ b1 ⟨rfl, rfl, rfl, rfl⟩ ?_ (fun _ => ?_) fun Γ3 d1 d2 => go_nil ⟨?_, ?_, ?_, ?_, ?_⟩
    · cases ha : decide (c.c ≤ i) <;> cases hb : decide (i < c.d) <;> (first | exact Eq.trans (t_all (a_and (t_cmp (v_sub rfl (b_name (al b2 rfl (al a2 rfl set_eq))) v_int rfl) (h_one (b_name (al b2 rfl (al a2 rfl (set_ne rfl (set_ne rfl h3))))) (m_le ha))) (and_f rfl))) (by simp only [List.length_cons, List.length_nil, if_true, if_false, reduceIte, reduceCtorEq, Option.map_some, Option.map_none, Int.reduceLE, Int.reduceLT, Int.reduceToNat, List.getElem?_cons_zero, List.getElem?_cons_succ, cmp1i, cmp1in, Bool.false_eq_true, or_false, or_true, true_or, false_or, beq_self_eq_true, Nat.reduceAdd, decide_true, decide_false, binop_add, binop_sub, Bool.and_true, Bool.true_and, Bool.and_false, Bool.false_and, Bool.or_false, Bool.or_true, Bool.true_or, Bool.false_or, List.isEmpty_cons, List.isEmpty_nil, Bool.not_true, Bool.not_false, and_true, true_and, and_self, ne_eq, not_false_eq_true, List.length_map, cmpint, cl, b2, a2, h3, ha, hb]) | exact Eq.trans (t_all (a_and (t_cmp (v_sub rfl (b_name (al b2 rfl (al a2 rfl set_eq))) v_int rfl) (h_one (b_name (al b2 rfl (al a2 rfl (set_ne rfl (set_ne rfl h3))))) (m_le ha))) (and_t rfl (a_and (t_cmp (v_name (al b2 rfl (al a2 rfl (set_ne rfl (set_ne rfl h3))))) (h_one (b_else rfl (v_sub rfl (b_name (al b2 rfl (al a2 rfl set_eq))) v_int rfl)) (m_lt hb))) (and_f rfl))))) (by simp only [List.length_cons, List.length_nil, if_true, if_false, reduceIte, reduceCtorEq, Option.map_some, Option.map_none, Int.reduceLE, Int.reduceLT, Int.reduceToNat, List.getElem?_cons_zero, List.getElem?_cons_succ, cmp1i, cmp1in, Bool.false_eq_true, or_false, or_true, true_or, false_or, beq_self_eq_true, Nat.reduceAdd, decide_true, decide_false, binop_add, binop_sub, Bool.and_true, Bool.true_and, Bool.and_false, Bool.false_and, Bool.or_false, Bool.or_true, Bool.true_or, Bool.false_or, List.isEmpty_cons, List.isEmpty_nil, Bool.not_true, Bool.not_false, and_true, true_and, and_self, ne_eq, not_false_eq_true, List.length_map, cmpint, cl, b2, a2, h3, ha, hb]) | exact Eq.trans (t_all (a_and (t_cmp (v_sub rfl (b_name (al b2 rfl (al a2 rfl set_eq))) v_int rfl) (h_one (b_name (al b2 rfl (al a2 rfl (set_ne rfl (set_ne rfl h3))))) (m_le ha))) (and_t rfl (a_and (t_cmp (v_name (al b2 rfl (al a2 rfl (set_ne rfl (set_ne rfl h3))))) (h_one (b_else rfl (v_sub rfl (b_name (al b2 rfl (al a2 rfl set_eq))) v_int rfl)) (m_lt hb))) (and_t rfl a_nila))))) (by simp only [List.length_cons, List.length_nil, if_true, if_false, reduceIte, reduceCtorEq, Option.map_some, Option.map_none, Int.reduceLE, Int.reduceLT, Int.reduceToNat, List.getElem?_cons_zero, List.getElem?_cons_succ, cmp1i, cmp1in, Bool.false_eq_true, or_false, or_true, true_or, false_or, beq_self_eq_true, Nat.reduceAdd, decide_true, decide_false, binop_add, binop_sub, Bool.and_true, Bool.true_and, Bool.and_false, Bool.false_and, Bool.or_false, Bool.or_true, Bool.true_or, Bool.false_or, List.isEmpty_cons, List.isEmpty_nil, Bool.not_true, Bool.not_false, and_true, true_and, and_self, ne_eq, not_false_eq_true, List.length_map, cmpint, cl, b2, a2, h3, ha, hb]))
    · rw [List.length_append, List.length_append]; repeat' split
      all_goals (simp [il]; omega)
    · exact ev_addc (ev_mul3 (by exact (al b2 rfl (al a2 rfl (set_ne rfl set_eq)))) hm)
    · rw [d1, il_key]
    all_goals (first | exact (al d2 rfl (al b2 rfl (al a2 rfl (set_ne rfl (set_ne rfl h2))))) | exact (al d2 rfl (al b2 rfl (al a2 rfl (set_ne rfl (set_ne rfl h3))))) | exact (al d2 rfl (al b2 rfl (al a2 rfl (set_ne rfl (set_ne rfl h4))))) | exact (al d2 rfl (al b2 rfl (al a2 rfl (set_ne rfl (set_ne rfl h5))))))
  · rw [rangeD_length, Int.toNat_natCast] at h1
    refine exs_ret ?_
    exact (x_ret rfl (v_call h5 rfl (c_tuple rfl (b_name h1) u_tup)))

theorem eqv_int (a b : Int) : PyData.eqv (.int a) (.int b) = (a == b) := by simp only [PyData.eqv]
theorem memD_il {g : Int} {l : List Int} : memD (.int g) (il l) = .ok (l.contains g) := by
  unfold memD
  have h1 : (okD 7 (.int g) && (il l).all (okD 7)) = true := by
    simp [okD, il, List.all_eq_true]
  rw [h1]
  show Res.ok _ = _
  congr 1
  clear h1
  induction l with
  | nil => rfl
  | cons a l ih =>
    have e : PyData.eqv (.int a) (.int g) = (g == a) := by
      have e0 : PyData.eqv (.int a) (.int g) = (a == g) := eqv_int a g
      rw [e0, Bool.eq_iff_iff, beq_iff_eq, beq_iff_eq]
      exact eq_comm
    simp only [il, List.map_cons, List.any_cons, List.contains_cons, e]
    rw [← ih]; rfl

noncomputable def isEdge (cs : List Cl) (i : Int) : Bool := cs.any fun c => (edgesOf c).contains i
theorem sem_is_edge (T : Tab) {φ : List PyData → Res PyData} (hf : T.funs "clause_edges" = some φ) (hφ : ∀ c, φ [cl c] = .ok (tup (edgesOf c))) (cs : List Cl) (i : Int) :
    runDef T frz fuel F_is_edge.1.scope ["clauses", "i"] (bodyOf F_is_edge.1) [cls cs, .int i] = .ok (.bool (isEdge cs i)) := by
  refine run_ret rfl ?_
  simp only [F_is_edge, bodyOf, fuel, bindV_cons, bindV_nil, isGlob]
  have hP : (cs.map cl).any (fun d => match φ [d] with | .ok (.tuple es) => (match memD (.int i) es with | .ok b => b | _ => false) | _ => false) = isEdge cs i := by
    rw [List.any_map]
    unfold isEdge
    refine List.any_congr rfl fun c => ?_
    simp only [Function.comp, hφ, tup, memD_il]
  refine xfor_any (ds := cs.map cl) (fun d => match φ [d] with | .ok (.tuple es) => (match memD (.int i) es with | .ok b => b | _ => false) | _ => false) (.ret (.bool true)) (fun _ q => by cases q) (fun Γ => Γ "i" = some (.int i, false) ∧ Γ "clause_edges" = none) rfl rfl (by exact (o_name set_eq rfl)) ⟨by exact (set_ne rfl set_eq), by exact (set_ne rfl (set_ne rfl emp_eq))⟩
    (fun d hd Γ ⟨h1, h2⟩ hp => ?_) (fun d hd Γ ⟨h1, h2⟩ hp => ?_) (fun hp Γ' ⟨h1, h2⟩ => ?_) (fun hp => ?_)
  · obtain ⟨c, hc, rfl⟩ := List.mem_map.mp hd
    simp only [hφ, tup, memD_il] at hp
    refine go_nxt (eif_f rfl (by exact Eq.trans (t_cmp (v_name (set_ne rfl h1)) (h_one (b_else rfl (v_call (set_ne rfl h2) rfl (c_fun hf rfl (s_cons (v_name set_eq) s_nil) (hφ _)))) rfl)) (by simp only [List.length_cons, List.length_nil, if_true, if_false, reduceIte, reduceCtorEq, Option.map_some, Option.map_none, Int.reduceLE, Int.reduceLT, Int.reduceToNat, List.getElem?_cons_zero, List.getElem?_cons_succ, cmp1i, cmp1in, Bool.false_eq_true, or_false, or_true, true_or, false_or, beq_self_eq_true, Nat.reduceAdd, decide_true, decide_false, binop_add, binop_sub, Bool.and_true, Bool.true_and, Bool.and_false, Bool.false_and, Bool.or_false, Bool.or_true, Bool.true_or, Bool.false_or, List.isEmpty_cons, List.isEmpty_nil, Bool.not_true, Bool.not_false, and_true, true_and, and_self, ne_eq, not_false_eq_true, List.length_map, cmpint, h1, h2, hf, hφ, tup, memD_il, hp])) exs_nil) (go_nil ⟨by exact (set_ne rfl h1), by exact (set_ne rfl h2)⟩)
  · obtain ⟨c, hc, rfl⟩ := List.mem_map.mp hd
    simp only [hφ, tup, memD_il] at hp
    refine exs_ret (eif_t rfl (by exact Eq.trans (t_cmp (v_name (set_ne rfl h1)) (h_one (b_else rfl (v_call (set_ne rfl h2) rfl (c_fun hf rfl (s_cons (v_name set_eq) s_nil) (hφ _)))) rfl)) (by simp only [List.length_cons, List.length_nil, if_true, if_false, reduceIte, reduceCtorEq, Option.map_some, Option.map_none, Int.reduceLE, Int.reduceLT, Int.reduceToNat, List.getElem?_cons_zero, List.getElem?_cons_succ, cmp1i, cmp1in, Bool.false_eq_true, or_false, or_true, true_or, false_or, beq_self_eq_true, Nat.reduceAdd, decide_true, decide_false, binop_add, binop_sub, Bool.and_true, Bool.true_and, Bool.and_false, Bool.false_and, Bool.or_false, Bool.or_true, Bool.true_or, Bool.false_or, List.isEmpty_cons, List.isEmpty_nil, Bool.not_true, Bool.not_false, and_true, true_and, and_self, ne_eq, not_false_eq_true, List.length_map, cmpint, h1, h2, hf, hφ, tup, memD_il, hp])) (exs_ret ?_))
    exact (x_ret rfl v_bool)
  · rw [hP] at hp
    refine exs_ret ?_
    exact Eq.trans (x_ret rfl v_bool) (by simp only [List.length_cons, List.length_nil, if_true, if_false, reduceIte, reduceCtorEq, Option.map_some, Option.map_none, Int.reduceLE, Int.reduceLT, Int.reduceToNat, List.getElem?_cons_zero, List.getElem?_cons_succ, cmp1i, cmp1in, Bool.false_eq_true, or_false, or_true, true_or, false_or, beq_self_eq_true, Nat.reduceAdd, decide_true, decide_false, binop_add, binop_sub, Bool.and_true, Bool.true_and, Bool.and_false, Bool.false_and, Bool.or_false, Bool.or_true, Bool.true_or, Bool.false_or, List.isEmpty_cons, List.isEmpty_nil, Bool.not_true, Bool.not_false, and_true, true_and, and_self, ne_eq, not_false_eq_true, List.length_map, cmpint, hp])
  · rw [hP] at hp; rw [hp]
end
section
set_option maxRecDepth 100000
set_option linter.unusedVariables false
set_option linter.unusedSimpArgs false

theorem whileL_ind (t : Vars → Res Bool) (b : Vars → Out) (I : Nat → Vars → Prop) (Post : Out → Prop) (h0 : ∀ Γ, ¬ I 0 Γ)
    (step : ∀ k Γ, I (k + 1) Γ → (t Γ = .ok false ∧ Post (.nxt Γ)) ∨ (t Γ = .ok true ∧ (Goes (b Γ) (I k) ∨ (∃ d, b Γ = .ret d ∧ Post (.ret d)) ∨ (b Γ = .exc ∧ Post .exc)))) : ∀ k Γ, I k Γ → Post (whileL t b k Γ)
  | 0, Γ, h => (h0 Γ h).elim
  | k + 1, Γ, h => by
    unfold whileL
    rcases step k Γ h with ⟨e, p⟩ | ⟨e, ⟨Γ', e', h'⟩ | ⟨d, e', p⟩ | ⟨e', p⟩⟩
    · simp only [e, Out.of_ok, Bool.false_eq_true, if_false]; exact p
    · simp only [e, e', Out.of_ok, if_true, Out.andThen_nxt]; exact whileL_ind t b I Post h0 step k Γ' h'
    · simp only [e, e', Out.of_ok, if_true, Out.andThen_ret]; exact p
    · simp only [e, e', Out.of_ok, if_true, Out.andThen_exc]; exact p
section
variable {T : Tab} {fz : Nat → List Str} {n : Nat} {sc : Scope} {Γ : Vars} {o : Out} {pos : Pos}
theorem xwhile {t : Expr} {b r : List Stmt} (I : Nat → Vars → Prop) (Post : Out → Prop) (hz : fz pos.line = []) (hI : I turns Γ) (h0 : ∀ Γ, ¬ I 0 Γ)
    (step : ∀ k Γ, I (k + 1) Γ → (evT T n sc Γ t = .ok false ∧ Post (.nxt Γ)) ∨ (evT T n sc Γ t = .ok true ∧ (Goes (exs T fz n sc Γ b) (I k) ∨ (∃ d, exs T fz n sc Γ b = .ret d ∧ Post (.ret d)) ∨ (exs T fz n sc Γ b = .exc ∧ Post .exc))))
    (rest : ∀ o', Post o' → o'.andThen (fun Γ' => exs T fz (n + 1) sc Γ' r) = o) : exs T fz (n + 2) sc Γ (.While t b [] pos :: r) = o := by
  have key := whileL_ind (fun Γ => evT T n sc Γ t) (fun Γ => exs T fz n sc Γ b) I Post h0 step turns Γ hI
  have e := ewhile (pos := pos) (t := t) (b := b) (fz := fz) (T := T) (n := n) (sc := sc) (Γ := Γ) hz rfl
  show (ex T fz (n + 1) sc Γ (.While t b [] pos)).andThen (fun Γ' => exs T fz (n + 1) sc Γ' r) = o
  rw [e]
  exact rest _ key
end

theorem nodup_le : ∀ (l l' : List Int), l.Nodup → (∀ a ∈ l, a ∈ l') → l.length ≤ l'.length
  | [], _, _, _ => Nat.zero_le _
  | a :: l, l', hn, hs => by
    have ha := hs a (by simp)
    have := nodup_le l (l'.erase a) (List.nodup_cons.mp hn).2 fun b hb => by
      refine (List.mem_erase_of_ne ?_).mpr (hs b (by simp [hb]))
      intro q; subst q; exact (List.nodup_cons.mp hn).1 hb
    rw [List.length_erase_of_mem ha] at this
    have : 0 < l'.length := List.length_pos_of_mem ha
    rw [List.length_cons]; omega

theorem eqvAll_il : ∀ (a b : List Int), PyData.eqvAll (il a) (il b) = (a == b)
  | [], [] => by simp [il, PyData.eqvAll]
  | [], b :: bs => by simp [il, PyData.eqvAll]
  | a :: as, [] => by simp [il, PyData.eqvAll]
  | a :: as, b :: bs => by
    have ih := eqvAll_il as bs
    simp only [il, List.map_cons, PyData.eqvAll, eqv_int] at ih ⊢
    rw [ih]; rfl
theorem okD_tup (n : Nat) (a : List Int) : okD (n + 1) (tup a) = true := by
  unfold tup okD
  simp only [List.all_eq_true]
  intro d hd
  obtain ⟨x, _, rfl⟩ := List.mem_map.mp hd
  cases n <;> rfl
theorem cmp_tup (a b : List Int) : cmp1 .Eq (tup a) (tup b) = .ok (a == b) := by
  have e : cmp1 .Eq (tup a) (tup b) = Res.guard (okD 8 (tup a) && okD 8 (tup b)) (.ok (PyData.eqv (tup a) (tup b))) := rfl
  rw [e, okD_tup, okD_tup]
  show Res.ok _ = _
  rw [← eqvAll_il]
  unfold tup
  simp only [PyData.eqv]

theorem idx_row0 (r : Row) : index (row r) (.int 0) = .ok (.int r.op) := by cases r <;> rfl
noncomputable def opAt (code : List Row) (j : Int) : Int := ((code[j.toNat]?).map Row.op).getD 0
noncomputable def argAt (code : List Row) (j : Int) : Int := match code[j.toNat]? with | some (.pl _ n) => n | _ => 0
noncomputable def okG (m : Nat) (g : Int) : Bool := decide (0 ≤ g) && decide (g < (m : Int))
noncomputable def chase (code : List Row) (cs : List Cl) (key : List Int) (goal : Int) : Nat → List Int → Int → Option Int
  | 0, _, _ => some goal
  | k + 1, seen, at_ => if opAt code at_ == 56 && keyOf cs at_ == key then (if seen.contains at_ then some goal else if okG code.length (argAt code at_) then chase code cs key goal k (seen ++ [at_]) (argAt code at_) else none) else some at_
noncomputable def chainEnd (code : List Row) (cs : List Cl) (i goal : Int) : Option Int := if okG code.length goal then chase code cs (keyOf cs i) goal turns [] goal else none
noncomputable def optI : Option Int → Res PyData
  | some x => .ok (.int x)
  | none => .exc

noncomputable def outI : Option Int → Out
  | some x => .ret (.int x)
  | none => .exc
theorem run_outI {T : Tab} {fz : Nat → List Str} {n : Nat} {sc : Scope} {names : List Str} {body : List Stmt} {ds : List PyData} {R : Option Int} (hl : names.length = ds.length) (h : exs T fz n sc (bindV names ds) body = outI R) : runDef T fz n sc names body ds = optI R := by
  cases R with
  | none => exact run_exc hl h
  | some x => exact run_ret hl h
theorem okG_iff {m : Nat} {g : Int} : okG m g = true ↔ 0 ≤ g ∧ g < m := by simp [okG]
theorem rowAt {code : List Row} {j : Int} (h : okG code.length j = true) : ∃ r, code[j.toNat]? = some r ∧ index (rws code) (.int j) = .ok (row r) ∧ opAt code j = r.op := by
  obtain ⟨h0, h1⟩ := okG_iff.mp h
  obtain ⟨k, rfl⟩ := Int.eq_ofNat_of_zero_le h0
  have hk : k < code.length := by omega
  refine ⟨code[k], by simp, idx_list (by simp [hk]), by simp [opAt, hk]⟩

section
variable (T : Tab) (φk φc : List PyData → Res PyData) (code : List Row) (cs : List Cl)
theorem sem_chain_end (c1 : T.consts "OP_BR" = some 56) (hk : T.funs "region_key" = some φk) (hc : T.funs "checked_goal" = some φc) (hφk : ∀ j, φk [cls cs, .int j] = .ok (tup (keyOf cs j)))
    (hφc : ∀ i g, φc [rws code, .int i, .int g] = if okG code.length g then .ok (.int g) else .exc) (hm : code.length ≤ 90) (i goal : Int) :
    runDef T frz fuel F_chain_end.1.scope ["code", "clauses", "i", "goal"] (bodyOf F_chain_end.1) [rws code, cls cs, .int i, .int goal] = optI (chainEnd code cs i goal) := by
  unfold chainEnd
  cases hg : okG code.length goal with
  | false =>
    refine run_exc rfl ?_
    simp only [F_chain_end, bodyOf, fuel, bindV_cons, bindV_nil, isGlob]
    refine exs_nxt (by exact (x_set rfl rfl rfl (v_call (set_ne rfl (set_ne rfl (set_ne rfl (set_ne rfl emp_eq)))) rfl (c_fun hk rfl (s_cons (v_name (set_ne rfl set_eq)) (s_cons (v_name (set_ne rfl (set_ne rfl set_eq))) s_nil)) (hφk _))))) ?_
    refine exs_nxt (by exact (x_set0 rfl rfl)) ?_
    refine exs_exc (by exact (x_setx rfl rfl (v_call (set_ne rfl (set_ne rfl (set_ne rfl (set_ne rfl (set_ne rfl (set_ne rfl emp_eq)))))) rfl (c_fun hc rfl (s_cons (v_name (set_ne rfl (set_ne rfl set_eq))) (s_cons (v_name (set_ne rfl (set_ne rfl (set_ne rfl (set_ne rfl set_eq))))) (s_cons (v_name (set_ne rfl (set_ne rfl (set_ne rfl (set_ne rfl (set_ne rfl set_eq)))))) s_nil))) (fi_f (hφc _ _) hg)))))
  | true =>
    refine run_outI rfl ?_
    simp only [F_chain_end, bodyOf, fuel, bindV_cons, bindV_nil, isGlob]
    simp only [if_true]
    generalize hR : chase code cs (keyOf cs i) goal turns [] goal = R
    refine exs_nxt (by exact (x_set rfl rfl rfl (v_call (set_ne rfl (set_ne rfl (set_ne rfl (set_ne rfl emp_eq)))) rfl (c_fun hk rfl (s_cons (v_name (set_ne rfl set_eq)) (s_cons (v_name (set_ne rfl (set_ne rfl set_eq))) s_nil)) (hφk _))))) ?_
    refine exs_nxt (by exact (x_set0 rfl rfl)) ?_
    refine exs_nxt (by exact (x_set rfl rfl rfl (v_call (set_ne rfl (set_ne rfl (set_ne rfl (set_ne rfl (set_ne rfl (set_ne rfl emp_eq)))))) rfl (c_fun hc rfl (s_cons (v_name (set_ne rfl (set_ne rfl set_eq))) (s_cons (v_name (set_ne rfl (set_ne rfl (set_ne rfl (set_ne rfl set_eq))))) (s_cons (v_name (set_ne rfl (set_ne rfl (set_ne rfl (set_ne rfl (set_ne rfl set_eq)))))) s_nil))) (fi_t (hφc _ _) hg))))) ?_
    refine xwhile (fun k Γ => ∃ seen a, Γ "code" = some (rws code, false) ∧ Γ "clauses" = some (cls cs, false) ∧ Γ "goal" = some (.int goal, false) ∧ Γ "key" = some (tup (keyOf cs i), false) ∧ Γ "seen" = some (.list (il seen), true) ∧ Γ "at" = some (.int a, false) ∧
        Γ "OP_BR" = none ∧ Γ "region_key" = none ∧ Γ "checked_goal" = none ∧ okG code.length a = true ∧ seen.Nodup ∧ (∀ x ∈ seen, okG code.length x = true) ∧ code.length + 2 ≤ k + seen.length ∧ chase code cs (keyOf cs i) goal k seen a = R)
      (fun o' => o' = outI R ∨ ∃ Γ' x, R = some x ∧ o' = .nxt Γ' ∧ Γ' "at" = some (.int x, false)) rfl
      ⟨[], goal, by exact (set_ne rfl (set_ne rfl (set_ne rfl set_eq))), by exact (set_ne rfl (set_ne rfl (set_ne rfl (set_ne rfl set_eq)))), by exact (set_ne rfl (set_ne rfl (set_ne rfl (set_ne rfl (set_ne rfl (set_ne rfl set_eq)))))), by exact (set_ne rfl (set_ne rfl set_eq)), by exact Eq.trans (set_ne rfl set_eq) rfl, by exact set_eq, by exact (set_ne rfl (set_ne rfl (set_ne rfl (set_ne rfl (set_ne rfl (set_ne rfl (set_ne rfl emp_eq))))))), by exact (set_ne rfl (set_ne rfl (set_ne rfl (set_ne rfl (set_ne rfl (set_ne rfl (set_ne rfl emp_eq))))))), by exact (set_ne rfl (set_ne rfl (set_ne rfl (set_ne rfl (set_ne rfl (set_ne rfl (set_ne rfl emp_eq))))))), hg, List.nodup_nil, by simp, by unfold turns; simp; omega, hR⟩
      (fun Γ h => ?_) (fun k Γ h => ?_) (fun o' h => ?_)
    · obtain ⟨seen, a, _, _, _, _, _, _, _, _, _, _, hn, hs, hl, _⟩ := h
      have := nodup_le seen ((List.range code.length).map Int.ofNat) hn fun x hx => by
        obtain ⟨h0, h1⟩ := okG_iff.mp (hs x hx)
        exact List.mem_map.mpr ⟨x.toNat, List.mem_range.mpr (by omega), by simp; omega⟩
      simp at this; omega
    · obtain ⟨seen, a, g1, g2, g3, g4, g5, g6, g7, g8, g9, ha, hn, hs, hl, hch⟩ := h
      obtain ⟨r, hr, hi, hop⟩ := rowAt ha
      unfold chase at hch
      have i0 := idx_row0 r
      have hlen : seen.length ≤ code.length := by
        have := nodup_le seen ((List.range code.length).map Int.ofNat) hn fun x hx => by
          obtain ⟨h0, h1⟩ := okG_iff.mp (hs x hx)
          exact List.mem_map.mpr ⟨x.toNat, List.mem_range.mpr (by omega), by simp; omega⟩
        simpa using this
      cases ho56 : (r.op == 56) with
      | false =>
        left
        refine ⟨by exact (t_all (a_and (t_cmp (v_sub rfl (b_else rfl (v_sub rfl (b_name g1) (v_name g6) hi)) v_int i0) (h_one (b_glob g7 rfl c1) (m_eq ho56))) (and_f rfl))), ?_⟩
        rw [hop, ho56] at hch
        simp only [Bool.false_and, Bool.false_eq_true, if_false] at hch
        rw [← hch]
        exact .inr ⟨Γ, a, rfl, rfl, g6⟩
      | true =>
        have ct := cmp_tup (keyOf cs a) (keyOf cs i)
        cases hkk : (keyOf cs a == keyOf cs i) with
        | false =>
          left
          rw [hkk] at ct
          refine ⟨by exact (t_all (a_and (t_cmp (v_sub rfl (b_else rfl (v_sub rfl (b_name g1) (v_name g6) hi)) v_int i0) (h_one (b_glob g7 rfl c1) (m_eq ho56))) (and_t rfl (a_and (t_cmp (v_call g8 rfl (c_fun hk rfl (s_cons (v_name g2) (s_cons (v_name g6) s_nil)) (hφk _))) (h_one (b_name g4) ct)) (and_f rfl))))), ?_⟩
          rw [hop, ho56, hkk] at hch
          simp only [Bool.and_false, Bool.false_eq_true, if_false] at hch
          rw [← hch]
          exact .inr ⟨Γ, a, rfl, rfl, g6⟩
        | true =>
          right
          rw [hkk] at ct
          refine ⟨by exact (t_all (a_and (t_cmp (v_sub rfl (b_else rfl (v_sub rfl (b_name g1) (v_name g6) hi)) v_int i0) (h_one (b_glob g7 rfl c1) (m_eq ho56))) (and_t rfl (a_and (t_cmp (v_call g8 rfl (c_fun hk rfl (s_cons (v_name g2) (s_cons (v_name g6) s_nil)) (hφk _))) (h_one (b_name g4) ct)) (and_t rfl a_nila))))), ?_⟩
          rw [hop, ho56, hkk] at hch
          simp only [Bool.and_self, if_true] at hch
          have hmem := memD_il (g := a) (l := seen)
          cases hin : seen.contains a with
          | true =>
            rw [hin] at hmem hch
            simp only [if_true] at hch
            right; left
            refine ⟨.int goal, exs_ret (eif_t rfl (by exact (t_cmp (v_name g6) (h_one (b_name g5) (m_inl hmem)))) (exs_ret (by exact (x_ret rfl (v_name g3))))), ?_⟩
            rw [← hch]; exact .inl rfl
          | false =>
            rw [hin] at hmem hch
            simp only [Bool.false_eq_true, if_false] at hch
            obtain ⟨n, rfl⟩ : ∃ n, r = .pl 56 n := by
              cases r with
              | sw ts => exact absurd ho56 (by simp [Row.op])
              | pl op n => exact ⟨n, by rw [show op = 56 from by simpa [Row.op] using ho56]⟩
            have harg : argAt code a = n := by unfold argAt; rw [hr]
            have i1 : index (row (.pl 56 n)) (.int 1) = .ok (.int n) := rfl
            rw [harg] at hch
            cases hok : okG code.length n with
            | true =>
              rw [hok] at hch
              simp only [if_true] at hch
              left
              refine go_nxt (eif_f rfl (by exact (t_cmp (v_name g6) (h_one (b_name g5) (m_inl hmem)))) exs_nil) (go_nxt (eappend (ds := il seen) (d := .int a) rfl g5 ⟨rfl, rfl, rfl, rfl⟩ (by simp [il]; omega) (by exact (v_name g6))) (go_nxt (by exact (x_set rfl rfl rfl (v_call (set_ne rfl g9) rfl (c_fun hc rfl (s_cons (v_name (set_ne rfl g1)) (s_cons (v_name (set_ne rfl g6)) (s_cons (v_sub rfl (b_else rfl (v_sub rfl (b_name (set_ne rfl g1)) (v_name (set_ne rfl g6)) hi)) v_int i1) s_nil))) (fi_t (hφc _ _) hok))))) (go_nil ?_)))
              refine ⟨seen ++ [a], n, by exact (set_ne rfl (set_ne rfl g1)), by exact (set_ne rfl (set_ne rfl g2)), by exact (set_ne rfl (set_ne rfl g3)), by exact (set_ne rfl (set_ne rfl g4)), by exact Eq.trans (set_ne rfl set_eq) (by simp only [List.length_cons, List.length_nil, if_true, if_false, reduceIte, reduceCtorEq, Option.map_some, Option.map_none, Int.reduceLE, Int.reduceLT, Int.reduceToNat, List.getElem?_cons_zero, List.getElem?_cons_succ, cmp1i, cmp1in, Bool.false_eq_true, or_false, or_true, true_or, false_or, beq_self_eq_true, Nat.reduceAdd, decide_true, decide_false, binop_add, binop_sub, Bool.and_true, Bool.true_and, Bool.and_false, Bool.false_and, Bool.or_false, Bool.or_true, Bool.true_or, Bool.false_or, List.isEmpty_cons, List.isEmpty_nil, Bool.not_true, Bool.not_false, and_true, true_and, and_self, ne_eq, not_false_eq_true, List.length_map, cmpint, il, List.map_append, List.map_cons, List.map_nil]), by exact set_eq, by exact (set_ne rfl (set_ne rfl g7)), by exact (set_ne rfl (set_ne rfl g8)), by exact (set_ne rfl (set_ne rfl g9)), hok, ?_, ?_, ?_, hch⟩
              · rw [List.nodup_append]
                refine ⟨hn, by simp, fun x hx y hy => ?_⟩
                simp at hy; subst hy
                intro q; subst q
                simp [hx] at hin
              · intro x hx
                rcases List.mem_append.mp hx with h | h
                · exact hs x h
                · simp at h; subst h; exact ha
              · rw [List.length_append]; simp; omega
            | false =>
              rw [hok] at hch
              simp only [Bool.false_eq_true, if_false] at hch
              right; right
              refine ⟨exs_nxt (eif_f rfl (by exact (t_cmp (v_name g6) (h_one (b_name g5) (m_inl hmem)))) exs_nil) (exs_nxt (eappend (ds := il seen) (d := .int a) rfl g5 ⟨rfl, rfl, rfl, rfl⟩ (by simp [il]; omega) (by exact (v_name g6))) (exs_exc (by exact (x_setx rfl rfl (v_call (set_ne rfl g9) rfl (c_fun hc rfl (s_cons (v_name (set_ne rfl g1)) (s_cons (v_name (set_ne rfl g6)) (s_cons (v_sub rfl (b_else rfl (v_sub rfl (b_name (set_ne rfl g1)) (v_name (set_ne rfl g6)) hi)) v_int i1) s_nil))) (fi_f (hφc _ _) hok))))))), ?_⟩
              rw [← hch]; exact .inl rfl
    · rcases h with rfl | ⟨Γ', x, rfl, rfl, h2⟩
      · cases R <;> rfl
      · exact exs_ret (by exact (x_ret rfl (v_name h2)))
end
end
section
set_option maxRecDepth 100000
set_option linter.unusedVariables false
set_option linter.unusedSimpArgs false

noncomputable def mapO {α β : Type} (f : α → Option β) : List α → Option (List β)
  | [] => some []
  | a :: r => match f a with
    | none => none
    | some b => (mapO f r).map (b :: ·)

section
variable {T : Tab} {fz : Nat → List Str} {n : Nat} {sc : Scope} {Γ : Vars} {o : Out} {pos : Pos}
theorem forL_res (b : Vars → Out) (x out : Str) (f : PyData → Option PyData) (I : Vars → Prop) : ∀ (ds : List PyData) (k0 : Nat) (es : List PyData) (Γ : Vars), es.length = k0 → Γ out = some (.list es, true) → I Γ →
    (∀ k d Γ es, ds[k]? = some d → es.length = k0 + k → Γ out = some (.list es, true) → I Γ → (∃ e, f d = some e ∧ Goes (b (Γ.set x d false)) fun Γ' => Γ' out = some (.list (es ++ [e]), true) ∧ I Γ') ∨ (f d = none ∧ b (Γ.set x d false) = .exc)) →
    (mapO f ds = none ∧ forL b x ds Γ = .exc) ∨ (∃ rs, mapO f ds = some rs ∧ ∃ Γ', forL b x ds Γ = .nxt Γ' ∧ Γ' out = some (.list (es ++ rs), true) ∧ I Γ')
  | [], k0, es, Γ, hl, h1, h2, _ => .inr ⟨[], rfl, Γ, rfl, by simpa using h1, h2⟩
  | d :: ds, k0, es, Γ, hl, h1, h2, step => by
    rcases step 0 d Γ es rfl hl h1 h2 with ⟨e, he, Γ1, e1, g1, g2⟩ | ⟨he, hb⟩
    · rcases forL_res b x out f I ds (k0 + 1) (es ++ [e]) Γ1 (by simp [hl]) g1 g2 (fun k d' Γ' es' hk hl' => step (k + 1) d' Γ' es' (by simpa using hk) (by omega)) with ⟨q1, q2⟩ | ⟨rs, q1, Γ2, q2, q3, q4⟩
      · left; refine ⟨by simp only [mapO, he, q1, Option.map_none], by simp only [forL, e1, Out.andThen_nxt, q2]⟩
      · right; refine ⟨e :: rs, by simp only [mapO, he, q1, Option.map_some], Γ2, by simp only [forL, e1, Out.andThen_nxt, q2], by rw [q3]; simp, q4⟩
    · left; exact ⟨by simp only [mapO, he], by simp only [forL, hb, Out.andThen_exc]⟩
theorem xfor_res {x out : Str} {p : Pos} {it : Expr} {b r : List Stmt} {ds : List PyData} (f : PyData → Option PyData) (I : Vars → Prop) (hz : fz pos.line = []) (hx : storable sc x = true) (h : evFor T n sc Γ it = .ok ds) (h0 : Γ out = some (.list [], true)) (hI : I Γ)
    (step : ∀ k d Γ es, ds[k]? = some d → es.length = k → Γ out = some (.list es, true) → I Γ → (∃ e, f d = some e ∧ Goes (exs T fz n sc (Γ.set x d false) b) fun Γ' => Γ' out = some (.list (es ++ [e]), true) ∧ I Γ') ∨ (f d = none ∧ exs T fz n sc (Γ.set x d false) b = .exc))
    (bad : mapO f ds = none → Out.exc = o) (rest : ∀ rs Γ', mapO f ds = some rs → Γ' out = some (.list rs, true) → I Γ' → exs T fz (n + 1) sc Γ' r = o) : exs T fz (n + 2) sc Γ (.For (.Name x p) it b [] pos :: r) = o := by
  rcases forL_res (fun Γ => exs T fz n sc Γ b) x out f I ds 0 [] Γ rfl h0 hI (fun k d Γ es hk hl => step k d Γ es hk (by omega)) with ⟨q1, q2⟩ | ⟨rs, q1, Γ', q2, q3, q4⟩
  · rw [← bad q1]; exact exs_exc (efor hz hx h q2)
  · exact exs_nxt (efor hz hx h q2) (rest rs Γ' q1 q3 q4)
end

theorem exs_end {T : Tab} {fz : Nat → List Str} {n : Nat} {sc : Scope} {Γ : Vars} {st : Stmt} {r : List Stmt} {o : Out} (h : ex T fz n sc Γ st = o) (ho : ∀ Γ, o ≠ .nxt Γ) : exs T fz (n + 1) sc Γ (st :: r) = o := by
  show (ex T fz n sc Γ st).andThen (fun Γ' => exs T fz n sc Γ' r) = o
  rw [h]
  cases o <;> first | rfl | exact absurd rfl (ho _)
noncomputable def threadOne (code : List Row) (cs : List Cl) (i : Int) : Row → Option Row
  | .sw ts => (mapO (chainEnd code cs i) ts).map .sw
  | .pl op n => if isBr op && !(op == 221) then (chainEnd code cs i n).map (.pl op) else if op == 221 then (if okG code.length n then some (.pl op n) else none) else some (.pl op n)
noncomputable def optR : Option Row → Res PyData
  | some x => .ok (row x)
  | none => .exc
noncomputable def outR : Option Row → Out
  | some x => .ret (row x)
  | none => .exc
theorem outR_ne {R : Option Row} (Γ : Vars) : outR R ≠ .nxt Γ := by cases R <;> (intro h; cases h)
theorem run_outR {T : Tab} {fz : Nat → List Str} {n : Nat} {sc : Scope} {names : List Str} {body : List Stmt} {ds : List PyData} {R : Option Row} (hl : names.length = ds.length) (h : exs T fz n sc (bindV names ds) body = outR R) : runDef T fz n sc names body ds = optR R := by
  cases R with
  | none => exact run_exc hl h
  | some x => exact run_ret hl h

theorem mapO_il (f : Int → Option Int) : ∀ ts : List Int, mapO (fun d => match d with | .int g => (f g).map PyData.int | _ => none) (il ts) = (mapO f ts).map il
  | [] => rfl
  | t :: ts => by
    have ih := mapO_il f ts
    simp only [il, List.map_cons, mapO] at ih ⊢
    cases h : f t with
    | none => simp
    | some y => simp only [Option.map_some, ih]; cases mapO f ts <;> simp [il]

section
variable (T : Tab) (φe φb φc : List PyData → Res PyData) (code : List Row) (cs : List Cl)
theorem sem_thread_one (c1 : T.consts "OP_SWITCH" = some 69) (c2 : T.consts "OP_LEAVE" = some 221) (he : T.funs "chain_end" = some φe) (hb : T.funs "is_branch" = some φb) (hc : T.funs "checked_goal" = some φc)
    (hφe : ∀ i g, φe [rws code, cls cs, .int i, .int g] = optI (chainEnd code cs i g)) (hφb : ∀ op, φb [.int op] = .ok (.bool (isBr op))) (hφc : ∀ i g, φc [rws code, .int i, .int g] = if okG code.length g then .ok (.int g) else .exc)
    (i : Nat) (r : Row) (hr : code[i]? = some r) (wf : r.wf) :
    runDef T frz fuel F_thread_one.1.scope ["code", "clauses", "i"] (bodyOf F_thread_one.1) [rws code, cls cs, .int i] = optR (threadOne code cs i r) := by
  refine run_outR rfl ?_
  simp only [F_thread_one, bodyOf, fuel, bindV_cons, bindV_nil, isGlob]
  have hi : index (rws code) (.int i) = .ok (row r) := idx_list (by simp [hr])
  refine exs_nxt (by exact (x_set rfl rfl rfl (v_sub rfl (b_name set_eq) (v_name (set_ne rfl (set_ne rfl set_eq))) hi))) ?_
  cases r with
  | sw ts =>
    simp only [row]
    have h100 : ts.length ≤ 90 := wf
    refine exs_end (eif_t rfl (by exact (t_cmp (v_sub rfl (b_name set_eq) v_int rfl) (h_one (b_glob (set_ne rfl (set_ne rfl (set_ne rfl (set_ne rfl emp_eq)))) rfl c1) (m_eq rfl)))) ?_) outR_ne
    refine exs_nxt (by exact (x_set0 rfl rfl)) ?_
    refine xfor_res (out := "out") (ds := il ts) (fun d => match d with | .int g => (chainEnd code cs i g).map PyData.int | _ => none) (fun Γ => Γ "code" = some (rws code, false) ∧ Γ "clauses" = some (cls cs, false) ∧ Γ "i" = some (.int i, false) ∧ Γ "ins" = some (.tuple [.int 69, .tuple (il ts)], false) ∧ Γ "tuple" = none ∧ Γ "chain_end" = none) rfl rfl (by exact (o_else rfl (v_sub rfl (b_name (set_ne rfl set_eq)) v_int rfl) rfl))
      (by exact set_eq) ⟨by exact (set_ne rfl (set_ne rfl set_eq)), by exact (set_ne rfl (set_ne rfl (set_ne rfl set_eq))), by exact (set_ne rfl (set_ne rfl (set_ne rfl (set_ne rfl set_eq)))), by exact (set_ne rfl set_eq), by exact (set_ne rfl (set_ne rfl (set_ne rfl (set_ne rfl (set_ne rfl emp_eq))))), by exact (set_ne rfl (set_ne rfl (set_ne rfl (set_ne rfl (set_ne rfl emp_eq)))))⟩ (fun k d Γ es hk hl h1 ⟨h2, h3, h4, h5, h6, h7⟩ => ?_) (fun hm => ?_) fun rs Γ' hm h1 ⟨h2, h3, h4, h5, h6, h7⟩ => ?_
    · have hkl := getE hk
      rw [show (il ts)[k]? = (ts[k]?).map .int by simp [il]] at hk
      obtain ⟨g, hg', rfl⟩ := Option.map_eq_some_iff.mp hk
      have hk' : es.length ≤ 1000 := by simp [il] at hkl; omega
      cases hce : chainEnd code cs i g with
      | some y =>
        left
        refine ⟨.int y, by simp only [hce, Option.map_some], go_nxt (eappend (ds := es) (d := .int y) rfl (by exact (set_ne rfl h1)) ⟨rfl, rfl, rfl, rfl⟩ hk' (by exact (v_call (set_ne rfl h7) rfl (c_fun he rfl (s_cons (v_name (set_ne rfl h2)) (s_cons (v_name (set_ne rfl h3)) (s_cons (v_name (set_ne rfl h4)) (s_cons (v_name set_eq) s_nil)))) (ph (hφe _ _) (cg hce rfl)))))) (go_nil ⟨?_, ?_, ?_, ?_, ?_, ?_, ?_⟩)⟩
        all_goals (first | exact set_eq | exact (set_ne rfl (set_ne rfl h2)) | exact (set_ne rfl (set_ne rfl h3)) | exact (set_ne rfl (set_ne rfl h4)) | exact (set_ne rfl (set_ne rfl h5)) | exact (set_ne rfl (set_ne rfl h6)) | exact (set_ne rfl (set_ne rfl h7)))
      | none =>
        right
        exact ⟨by simp only [hce, Option.map_none], exs_exc (eappend_exc (ds := es) rfl (by exact (set_ne rfl h1)) ⟨rfl, rfl, rfl, rfl⟩ hk' (by exact (v_call (set_ne rfl h7) rfl (c_fun he rfl (s_cons (v_name (set_ne rfl h2)) (s_cons (v_name (set_ne rfl h3)) (s_cons (v_name (set_ne rfl h4)) (s_cons (v_name set_eq) s_nil)))) (ph (hφe _ _) (cg hce rfl))))))⟩
    · rw [mapO_il] at hm
      have hm' : mapO (chainEnd code cs i) ts = none := by cases h : mapO (chainEnd code cs i) ts with
        | none => rfl
        | some _ => rw [h] at hm; cases hm
      simp only [threadOne, hm', Option.map_none, outR]
    · rw [mapO_il] at hm
      obtain ⟨ys, hy, rfl⟩ := Option.map_eq_some_iff.mp hm
      refine exs_end ?_ outR_ne
      exact Eq.trans (x_ret rfl (v_tup (s_cons (v_sub rfl (b_name h5) v_int rfl) (s_cons (v_call h6 rfl (c_tuple rfl (b_name h1) u_tup)) s_nil)) rfl)) (by simp only [List.length_cons, List.length_nil, if_true, if_false, reduceIte, reduceCtorEq, Option.map_some, Option.map_none, Int.reduceLE, Int.reduceLT, Int.reduceToNat, List.getElem?_cons_zero, List.getElem?_cons_succ, cmp1i, cmp1in, Bool.false_eq_true, or_false, or_true, true_or, false_or, beq_self_eq_true, Nat.reduceAdd, decide_true, decide_false, binop_add, binop_sub, Bool.and_true, Bool.true_and, Bool.and_false, Bool.false_and, Bool.or_false, Bool.or_true, Bool.true_or, Bool.false_or, List.isEmpty_cons, List.isEmpty_nil, Bool.not_true, Bool.not_false, and_true, true_and, and_self, ne_eq, not_false_eq_true, List.length_map, cmpint, h1, h5, h6, threadOne, hy, outR, row])
  | pl op n =>
    simp only [row]
    have hop : (op == 69) = false := by have q : op ≠ 69 := wf; simpa using q
    refine exs_nxt (eif_f rfl (by exact (t_cmp (v_sub rfl (b_name set_eq) v_int rfl) (h_one (b_glob (set_ne rfl (set_ne rfl (set_ne rfl (set_ne rfl emp_eq)))) rfl c1) (m_eq hop)))) exs_nil) ?_
    cases hbr : isBr op with
    | false =>
      have h221 : (op == 221) = false := by
        cases q : (op == 221) with
        | false => rfl
        | true => unfold isBr at hbr; rw [q, Bool.or_true] at hbr; cases hbr
      refine exs_nxt (eif_f rfl (by exact (t_all (a_and (t_else rfl (v_call (set_ne rfl (set_ne rfl (set_ne rfl (set_ne rfl emp_eq)))) rfl (c_fun hb rfl (s_cons (v_sub rfl (b_name set_eq) v_int rfl) s_nil) (hφb _))) (r_bool hbr)) (and_f rfl)))) exs_nil) (exs_nxt (eif_f rfl (by exact (t_cmp (v_sub rfl (b_name set_eq) v_int rfl) (h_one (b_glob (set_ne rfl (set_ne rfl (set_ne rfl (set_ne rfl emp_eq)))) rfl c2) (m_eq h221)))) exs_nil) (exs_end ?_ outR_ne))
      exact Eq.trans (x_ret rfl (v_name set_eq)) (by simp only [List.length_cons, List.length_nil, if_true, if_false, reduceIte, reduceCtorEq, Option.map_some, Option.map_none, Int.reduceLE, Int.reduceLT, Int.reduceToNat, List.getElem?_cons_zero, List.getElem?_cons_succ, cmp1i, cmp1in, Bool.false_eq_true, or_false, or_true, true_or, false_or, beq_self_eq_true, Nat.reduceAdd, decide_true, decide_false, binop_add, binop_sub, Bool.and_true, Bool.true_and, Bool.and_false, Bool.false_and, Bool.or_false, Bool.or_true, Bool.true_or, Bool.false_or, List.isEmpty_cons, List.isEmpty_nil, Bool.not_true, Bool.not_false, and_true, true_and, and_self, ne_eq, not_false_eq_true, List.length_map, cmpint, threadOne, hbr, h221, row, outR])
    | true =>
      cases h221 : (op == 221) with
      | true =>
        refine exs_nxt (eif_f rfl (by exact (t_all (a_and (t_else rfl (v_call (set_ne rfl (set_ne rfl (set_ne rfl (set_ne rfl emp_eq)))) rfl (c_fun hb rfl (s_cons (v_sub rfl (b_name set_eq) v_int rfl) s_nil) (hφb _))) (r_bool hbr)) (and_t rfl (a_and (t_cmp (v_sub rfl (b_name set_eq) v_int rfl) (h_one (b_glob (set_ne rfl (set_ne rfl (set_ne rfl (set_ne rfl emp_eq)))) rfl c2) (m_ne h221))) (and_f (nt_f rfl))))))) exs_nil) ?_
        cases hok : okG code.length n with
        | true =>
          refine exs_nxt (eif_t rfl (by exact (t_cmp (v_sub rfl (b_name set_eq) v_int rfl) (h_one (b_glob (set_ne rfl (set_ne rfl (set_ne rfl (set_ne rfl emp_eq)))) rfl c2) (m_eq h221)))) (exs_nxt (by exact (x_drop rfl (v_call (set_ne rfl (set_ne rfl (set_ne rfl (set_ne rfl emp_eq)))) rfl (c_fun hc rfl (s_cons (v_name (set_ne rfl set_eq)) (s_cons (v_name (set_ne rfl (set_ne rfl (set_ne rfl set_eq)))) (s_cons (v_sub rfl (b_name set_eq) v_int rfl) s_nil))) (fi_t (hφc _ _) hok))) rfl)) exs_nil)) (exs_end ?_ outR_ne)
          exact Eq.trans (x_ret rfl (v_name set_eq)) (by simp only [List.length_cons, List.length_nil, if_true, if_false, reduceIte, reduceCtorEq, Option.map_some, Option.map_none, Int.reduceLE, Int.reduceLT, Int.reduceToNat, List.getElem?_cons_zero, List.getElem?_cons_succ, cmp1i, cmp1in, Bool.false_eq_true, or_false, or_true, true_or, false_or, beq_self_eq_true, Nat.reduceAdd, decide_true, decide_false, binop_add, binop_sub, Bool.and_true, Bool.true_and, Bool.and_false, Bool.false_and, Bool.or_false, Bool.or_true, Bool.true_or, Bool.false_or, List.isEmpty_cons, List.isEmpty_nil, Bool.not_true, Bool.not_false, and_true, true_and, and_self, ne_eq, not_false_eq_true, List.length_map, cmpint, threadOne, hbr, h221, hok, row, outR])
        | false =>
          refine exs_end (eif_t rfl (by exact (t_cmp (v_sub rfl (b_name set_eq) v_int rfl) (h_one (b_glob (set_ne rfl (set_ne rfl (set_ne rfl (set_ne rfl emp_eq)))) rfl c2) (m_eq h221)))) (exs_end ?_ outR_ne)) outR_ne
          exact Eq.trans (x_dropx rfl (v_call (set_ne rfl (set_ne rfl (set_ne rfl (set_ne rfl emp_eq)))) rfl (c_fun hc rfl (s_cons (v_name (set_ne rfl set_eq)) (s_cons (v_name (set_ne rfl (set_ne rfl (set_ne rfl set_eq)))) (s_cons (v_sub rfl (b_name set_eq) v_int rfl) s_nil))) (fi_f (hφc _ _) hok)))) (by simp only [List.length_cons, List.length_nil, if_true, if_false, reduceIte, reduceCtorEq, Option.map_some, Option.map_none, Int.reduceLE, Int.reduceLT, Int.reduceToNat, List.getElem?_cons_zero, List.getElem?_cons_succ, cmp1i, cmp1in, Bool.false_eq_true, or_false, or_true, true_or, false_or, beq_self_eq_true, Nat.reduceAdd, decide_true, decide_false, binop_add, binop_sub, Bool.and_true, Bool.true_and, Bool.and_false, Bool.false_and, Bool.or_false, Bool.or_true, Bool.true_or, Bool.false_or, List.isEmpty_cons, List.isEmpty_nil, Bool.not_true, Bool.not_false, and_true, true_and, and_self, ne_eq, not_false_eq_true, List.length_map, cmpint, hc, hφc, hok, threadOne, hbr, h221, outR])
      | false =>
        refine exs_end (eif_t rfl (by exact (t_all (a_and (t_else rfl (v_call (set_ne rfl (set_ne rfl (set_ne rfl (set_ne rfl emp_eq)))) rfl (c_fun hb rfl (s_cons (v_sub rfl (b_name set_eq) v_int rfl) s_nil) (hφb _))) (r_bool hbr)) (and_t rfl (a_and (t_cmp (v_sub rfl (b_name set_eq) v_int rfl) (h_one (b_glob (set_ne rfl (set_ne rfl (set_ne rfl (set_ne rfl emp_eq)))) rfl c2) (m_ne h221))) (and_t (nt_t rfl) a_nila)))))) ?_) outR_ne
        cases hce : chainEnd code cs i n with
        | some y =>
          refine exs_end ?_ outR_ne
          exact Eq.trans (x_ret rfl (v_tup (s_cons (v_sub rfl (b_name set_eq) v_int rfl) (s_cons (v_call (set_ne rfl (set_ne rfl (set_ne rfl (set_ne rfl emp_eq)))) rfl (c_fun he rfl (s_cons (v_name (set_ne rfl set_eq)) (s_cons (v_name (set_ne rfl (set_ne rfl set_eq))) (s_cons (v_name (set_ne rfl (set_ne rfl (set_ne rfl set_eq)))) (s_cons (v_sub rfl (b_name set_eq) v_int rfl) s_nil)))) (ph (hφe _ _) (cg hce rfl)))) s_nil)) rfl)) (by simp only [List.length_cons, List.length_nil, if_true, if_false, reduceIte, reduceCtorEq, Option.map_some, Option.map_none, Int.reduceLE, Int.reduceLT, Int.reduceToNat, List.getElem?_cons_zero, List.getElem?_cons_succ, cmp1i, cmp1in, Bool.false_eq_true, or_false, or_true, true_or, false_or, beq_self_eq_true, Nat.reduceAdd, decide_true, decide_false, binop_add, binop_sub, Bool.and_true, Bool.true_and, Bool.and_false, Bool.false_and, Bool.or_false, Bool.or_true, Bool.true_or, Bool.false_or, List.isEmpty_cons, List.isEmpty_nil, Bool.not_true, Bool.not_false, and_true, true_and, and_self, ne_eq, not_false_eq_true, List.length_map, cmpint, he, hφe, hce, optI, threadOne, hbr, h221, row, outR])
        | none =>
          refine exs_end ?_ outR_ne
          exact Eq.trans (x_retx rfl (v_tupx (s_excr (v_sub rfl (b_name set_eq) v_int rfl) (s_exc (v_call (set_ne rfl (set_ne rfl (set_ne rfl (set_ne rfl emp_eq)))) rfl (c_fun he rfl (s_cons (v_name (set_ne rfl set_eq)) (s_cons (v_name (set_ne rfl (set_ne rfl set_eq))) (s_cons (v_name (set_ne rfl (set_ne rfl (set_ne rfl set_eq)))) (s_cons (v_sub rfl (b_name set_eq) v_int rfl) s_nil)))) (ph (hφe _ _) (cg hce rfl)))))))) (by simp only [List.length_cons, List.length_nil, if_true, if_false, reduceIte, reduceCtorEq, Option.map_some, Option.map_none, Int.reduceLE, Int.reduceLT, Int.reduceToNat, List.getElem?_cons_zero, List.getElem?_cons_succ, cmp1i, cmp1in, Bool.false_eq_true, or_false, or_true, true_or, false_or, beq_self_eq_true, Nat.reduceAdd, decide_true, decide_false, binop_add, binop_sub, Bool.and_true, Bool.true_and, Bool.and_false, Bool.false_and, Bool.or_false, Bool.or_true, Bool.true_or, Bool.false_or, List.isEmpty_cons, List.isEmpty_nil, Bool.not_true, Bool.not_false, and_true, true_and, and_self, ne_eq, not_false_eq_true, List.length_map, cmpint, he, hφe, hce, optI, threadOne, hbr, h221, outR])
end
end
section
set_option maxRecDepth 100000
set_option linter.unusedVariables false
set_option linter.unusedSimpArgs false

theorem mapO_map {α β γ δ : Type} (f : γ → Option δ) (g : α → γ) (h : α → Option β) (e : β → δ) (q : ∀ a, f (g a) = (h a).map e) : ∀ l : List α, mapO f (l.map g) = (mapO h l).map (List.map e)
  | [] => rfl
  | a :: l => by
    simp only [List.map_cons, mapO, q, mapO_map f g h e q l]
    cases h a with
    | none => rfl
    | some b => cases mapO h l <;> rfl
theorem mapO_some {α β : Type} {f : α → Option β} : ∀ {l : List α} {rs : List β}, mapO f l = some rs → rs.length = l.length ∧ ∀ (k : Nat) a, l[k]? = some a → ∃ b, rs[k]? = some b ∧ f a = some b
  | [], rs, h => by cases h; simp
  | a :: l, rs, h => by
    simp only [mapO] at h
    cases hf : f a with
    | none => rw [hf] at h; cases h
    | some b =>
      rw [hf] at h
      obtain ⟨rs', h', rfl⟩ := Option.map_eq_some_iff.mp h
      obtain ⟨h1, h2⟩ := mapO_some h'
      refine ⟨by simp [h1], fun k a' hk => ?_⟩
      cases k with
      | zero => simp at hk; subst hk; exact ⟨b, by simp, hf⟩
      | succ k => simpa using h2 k a' (by simpa using hk)
theorem mapO_mem {α β : Type} {f : α → Option β} : ∀ {l : List α} {rs : List β}, mapO f l = some rs → ∀ b ∈ rs, ∃ a ∈ l, f a = some b
  | [], rs, h, b, hb => by cases h; cases hb
  | a :: l, rs, h, b, hb => by
    simp only [mapO] at h
    cases hf : f a with
    | none => rw [hf] at h; cases h
    | some c =>
      rw [hf] at h
      obtain ⟨rs', h', rfl⟩ := Option.map_eq_some_iff.mp h
      rcases List.mem_cons.mp hb with rfl | hb
      · exact ⟨a, by simp, hf⟩
      · obtain ⟨a', h1, h2⟩ := mapO_mem h' b hb
        exact ⟨a', by simp [h1], h2⟩

theorem chase_ok {code : List Row} {cs : List Cl} {key : List Int} {goal : Int} (hg : okG code.length goal = true) : ∀ k seen a x, okG code.length a = true → chase code cs key goal k seen a = some x → okG code.length x = true
  | 0, _, _, _, _, h => by cases h; exact hg
  | k + 1, seen, a, x, ha, h => by
    unfold chase at h
    split at h
    · split at h
      · cases h; exact hg
      · split at h
        · rename_i q; exact chase_ok hg k _ _ x q h
        · cases h
    · cases h; exact ha
theorem chainEnd_ok {code : List Row} {cs : List Cl} {i goal x : Int} (h : chainEnd code cs i goal = some x) : okG code.length x = true := by
  unfold chainEnd at h
  split at h
  · rename_i q; exact chase_ok q _ _ _ _ q h
  · cases h

theorem threadOne_ok {code : List Row} {cs : List Cl} {i : Int} {r r' : Row} (wf : r.wf) (h : threadOne code cs i r = some r') : r'.wf ∧ (∀ g ∈ goalsR r', okG code.length g = true) ∧ r'.op = r.op := by
  cases r with
  | sw ts =>
    obtain ⟨ys, hy, rfl⟩ := Option.map_eq_some_iff.mp h
    refine ⟨?_, fun g hg => ?_, rfl⟩
    · show ys.length ≤ 90
      rw [(mapO_some hy).1]; exact wf
    · obtain ⟨a, _, ha⟩ := mapO_mem hy g hg
      exact chainEnd_ok ha
  | pl op n =>
    simp only [threadOne] at h
    split at h
    · obtain ⟨y, hy, rfl⟩ := Option.map_eq_some_iff.mp h
      refine ⟨wf, fun g hg => ?_, rfl⟩
      simp only [goalsR] at hg
      split at hg
      · simp at hg; subst hg; exact chainEnd_ok hy
      · cases hg
    · split at h
      · split at h
        · rename_i q
          cases h
          refine ⟨wf, fun g hg => ?_, rfl⟩
          simp only [goalsR] at hg
          split at hg
          · simp at hg; subst hg; exact q
          · cases hg
        · cases h
      · cases h
        refine ⟨wf, fun g hg => ?_, rfl⟩
        rename_i q1 q2
        simp only [goalsR] at hg
        split at hg
        · rename_i q
          rw [q] at q1
          simp at q1
          simp [q1] at q2
        · cases hg

noncomputable def keepB (rs : List Row) (cs : List Cl) (i : Nat) : Bool := !((opAt rs i == 56 && (argAt rs i == (i : Int) + 1)) && decide ((i : Int) + 1 < (rs.length : Int))) || (isEdge cs i || isEdge cs ((i : Int) + 1))
noncomputable def rowsT (code : List Row) (cs : List Cl) : Option (List Row) := mapO (fun (i : Nat) => (code[i]?).bind (threadOne code cs i)) (List.range code.length)
noncomputable def keptT (rs : List Row) (cs : List Cl) : List Bool := (List.range rs.length).map (keepB rs cs)
noncomputable def threadRound (code : List Row) (cs : List Cl) : Option (List Row × List Cl) := (rowsT code cs).map fun rs => (keepR (placesOf (keptT rs cs)) rs (keptT rs cs), cs.map (mvCl (placesOf (keptT rs cs))))
noncomputable def pairD (p : List Row × List Cl) : PyData := .tuple [rws p.1, cls p.2]
noncomputable def optP : Option (List Row × List Cl) → Res PyData
  | some p => .ok (pairD p)
  | none => .exc
noncomputable def outP : Option (List Row × List Cl) → Out
  | some p => .ret (pairD p)
  | none => .exc
theorem outP_ne {R : Option (List Row × List Cl)} (Γ : Vars) : outP R ≠ .nxt Γ := by cases R <;> (intro h; cases h)
theorem run_outP {T : Tab} {fz : Nat → List Str} {n : Nat} {sc : Scope} {names : List Str} {body : List Stmt} {ds : List PyData} {R : Option (List Row × List Cl)} (hl : names.length = ds.length) (h : exs T fz n sc (bindV names ds) body = outP R) : runDef T fz n sc names body ds = optP R := by
  cases R with
  | none => exact run_exc hl h
  | some x => exact run_ret hl h

theorem rows_mapO (code : List Row) (cs : List Cl) : mapO (fun d => match d with | .int i => ((code[i.toNat]?).bind (threadOne code cs i)).map row | _ => none) (rangeD code.length) = (rowsT code cs).map (List.map row) := by
  unfold rangeD rowsT
  rw [Int.toNat_natCast]
  exact mapO_map _ _ _ _ (fun (i : Nat) => by simp only [Int.toNat_natCast]) _

section
variable (T : Tab) (φo φe φk : List PyData → Res PyData) (code : List Row) (cs : List Cl)
theorem sem_thread_round (c1 : T.consts "OP_BR" = some 56) (ho : T.funs "thread_one" = some φo) (he : T.funs "is_edge" = some φe) (hk : T.funs "keep_only" = some φk)
    (hφo : ∀ (i : Nat) r, code[i]? = some r → φo [rws code, cls cs, .int i] = optR (threadOne code cs i r)) (hφe : ∀ i, φe [cls cs, .int i] = .ok (.bool (isEdge cs i))) (hm : code.length ≤ 90) (hwf : ∀ r ∈ code, r.wf)
    (hφk : ∀ (rs : List Row) (fs : List Bool), rs.length = fs.length → rs.length ≤ 90 → (∀ r ∈ rs, r.wf ∧ ∀ g ∈ goalsR r, okG rs.length g = true) → rs.length = code.length → φk [rws rs, cls cs, .list (fs.map .bool)] = .ok (.tuple [rws (keepR (placesOf fs) rs fs), cls (cs.map (mvCl (placesOf fs))), .list (il (placesOf fs))])) :
    runDef T frz fuel F_thread_round.1.scope ["code", "clauses"] (bodyOf F_thread_round.1) [rws code, cls cs] = optP (threadRound code cs) := by
  refine run_outP rfl ?_
  simp only [F_thread_round, bodyOf, fuel, bindV_cons, bindV_nil, isGlob]
  refine exs_nxt (by exact (x_set0 rfl rfl)) ?_
  refine xfor_res (out := "rows") (ds := rangeD code.length) (fun d => match d with | .int i => ((code[i.toNat]?).bind (threadOne code cs i)).map row | _ => none) (fun Γ => Γ "code" = some (rws code, false) ∧ Γ "clauses" = some (cls cs, false) ∧ Γ "thread_one" = none ∧ Γ "is_edge" = none ∧ Γ "keep_only" = none ∧ Γ "OP_BR" = none ∧ Γ "len" = none ∧ Γ "range" = none) rfl rfl
    (evFor_range (by omega) (by exact (set_ne rfl (set_ne rfl (set_ne rfl emp_eq)))) rfl (by exact (v_call (set_ne rfl (set_ne rfl (set_ne rfl emp_eq))) rfl (c_len rfl (b_name (set_ne rfl set_eq)) u_lenr)))) (by exact set_eq) ⟨by exact (set_ne rfl set_eq), by exact (set_ne rfl (set_ne rfl set_eq)), by exact (set_ne rfl (set_ne rfl (set_ne rfl emp_eq))), by exact (set_ne rfl (set_ne rfl (set_ne rfl emp_eq))), by exact (set_ne rfl (set_ne rfl (set_ne rfl emp_eq))), by exact (set_ne rfl (set_ne rfl (set_ne rfl emp_eq))), by exact (set_ne rfl (set_ne rfl (set_ne rfl emp_eq))), by exact (set_ne rfl (set_ne rfl (set_ne rfl emp_eq)))⟩
    (fun k d Γ es hk' hl h1 ⟨h2, h3, h4, h5, h6, h7, h8, h9⟩ => ?_) (fun hmo => ?_) fun rs Γ' hmo h1 ⟨h2, h3, h4, h5, h6, h7, h8, h9⟩ => ?_
  · have hkl := getE hk'
    rw [rangeD_length, Int.toNat_natCast] at hkl
    rw [rangeD_get (by rw [Int.toNat_natCast]; exact hkl)] at hk'
    cases hk'
    obtain ⟨r, hr⟩ : ∃ r, code[k]? = some r := ⟨code[k], by simp⟩
    have hφ := hφo k r hr
    cases hto : threadOne code cs k r with
    | some r' =>
      rw [hto] at hφ
      left
      refine ⟨row r', by simp only [Int.toNat_natCast, hr, Option.bind_some, hto, Option.map_some], go_nxt (eappend (ds := es) (d := row r') rfl (by exact (set_ne rfl h1)) ⟨rfl, rfl, rfl, rfl⟩ (by omega) (by exact (v_call (set_ne rfl h4) rfl (c_fun ho rfl (s_cons (v_name (set_ne rfl h2)) (s_cons (v_name (set_ne rfl h3)) (s_cons (v_name set_eq) s_nil))) hφ)))) (go_nil ⟨?_, ?_, ?_, ?_, ?_, ?_, ?_, ?_, ?_⟩)⟩
      all_goals (first | exact set_eq | exact (set_ne rfl (set_ne rfl h2)) | exact (set_ne rfl (set_ne rfl h3)) | exact (set_ne rfl (set_ne rfl h4)) | exact (set_ne rfl (set_ne rfl h5)) | exact (set_ne rfl (set_ne rfl h6)) | exact (set_ne rfl (set_ne rfl h7)) | exact (set_ne rfl (set_ne rfl h8)) | exact (set_ne rfl (set_ne rfl h9)))
    | none =>
      rw [hto] at hφ
      right
      exact ⟨by simp only [Int.toNat_natCast, hr, Option.bind_some, hto, Option.map_none], exs_exc (eappend_exc (ds := es) rfl (by exact (set_ne rfl h1)) ⟨rfl, rfl, rfl, rfl⟩ (by omega) (by exact (v_call (set_ne rfl h4) rfl (c_fun ho rfl (s_cons (v_name (set_ne rfl h2)) (s_cons (v_name (set_ne rfl h3)) (s_cons (v_name set_eq) s_nil))) hφ))))⟩
  · rw [rows_mapO] at hmo
    have : rowsT code cs = none := by cases h : rowsT code cs with
      | none => rfl
      | some _ => rw [h] at hmo; cases hmo
    simp only [threadRound, this, Option.map_none, outP]
  · rw [rows_mapO] at hmo
    obtain ⟨R, hR, rfl⟩ := Option.map_eq_some_iff.mp hmo
    obtain ⟨hl1, hl2⟩ := mapO_some hR
    rw [List.length_range] at hl1
    have hgood : ∀ r ∈ R, r.wf ∧ ∀ g ∈ goalsR r, okG R.length g = true := fun r hr => by
      obtain ⟨i, hi, hf⟩ := mapO_mem hR r hr
      obtain ⟨r0, hr0, hf⟩ := Option.bind_eq_some_iff.mp hf
      obtain ⟨w1, w2, _⟩ := threadOne_ok (hwf r0 (List.mem_of_getElem? hr0)) hf
      rw [hl1]; exact ⟨w1, w2⟩
    simp only [threadRound, hR, Option.map_some]
    generalize hfs : keptT R cs = fs
    refine exs_nxt (by exact (x_set0 rfl rfl)) ?_
    refine xfor_app (out := "kept") (ds := rangeD R.length) (fun d => match d with | .int i => .bool (keepB R cs i.toNat) | d => d) (fun Γ => Γ "rows" = some (.list (R.map row), true) ∧ Γ "clauses" = some (cls cs, false) ∧ Γ "is_edge" = none ∧ Γ "keep_only" = none ∧ Γ "OP_BR" = none ∧ Γ "len" = none) rfl rfl
      (evFor_range (by omega) (by exact (set_ne rfl h9)) rfl (by exact (v_call (set_ne rfl h8) rfl (c_len rfl (b_name (set_ne rfl h1)) u_lenr)))) (by exact set_eq) ⟨by exact (set_ne rfl h1), by exact (set_ne rfl h3), by exact (set_ne rfl h5), by exact (set_ne rfl h6), by exact (set_ne rfl h7), by exact (set_ne rfl h8)⟩
      (fun k d Γ es hk' hl g1 ⟨g2, g3, g4, g5, g6, g7⟩ => ?_) fun Γ'' g1 ⟨g2, g3, g4, g5, g6, g7⟩ => ?_
    · have hkl := getE hk'
      rw [rangeD_length, Int.toNat_natCast] at hkl
      rw [rangeD_get (by rw [Int.toNat_natCast]; exact hkl)] at hk'
      cases hk'
      obtain ⟨r, hr⟩ : ∃ r, R[k]? = some r := ⟨R[k], by simp⟩
      have i1 : index (.list (R.map row)) (.int k) = .ok (row r) := idx_list (by simp [hr])
      have i0 := idx_row0 r
      have hop : opAt R k = r.op := by unfold opAt; rw [Int.toNat_natCast, hr]; rfl
      have hE1 := hφe k
      have hE2 := hφe ((k : Int) + 1)
      simp only [Int.toNat_natCast]
      have idle : ∃ b : Bool, b = ((opAt R k == 56 && (argAt R k == (k : Int) + 1)) && decide ((k : Int) + 1 < (R.length : Int))) := ⟨_, rfl⟩
      obtain ⟨b, hb⟩ := idle
      have hkeep : keepB R cs k = (!b || (isEdge cs k || isEdge cs ((k : Int) + 1))) := by unfold keepB; rw [hb]
      rw [hkeep]
      refine go_nxt (Γ' := (Γ.set "i" (.int k) false).set "idle" (.bool b) false) ?_ (go_nxt (eappend (ds := es) (d := .bool (!b || (isEdge cs k || isEdge cs ((k : Int) + 1)))) rfl (by exact (set_ne rfl (set_ne rfl g1))) ⟨rfl, rfl, rfl, rfl⟩ (by omega) ?_) (go_nil ⟨?_, ?_, ?_, ?_, ?_, ?_, ?_⟩))
      · cases ho56 : (r.op == 56) with
        | false =>
          rw [hop, ho56] at hb
          simp only [Bool.false_and] at hb
          subst hb
          exact (x_set rfl rfl rfl (v_or1 (w_and (v_cmp (v_sub rfl (b_else rfl (v_sub rfl (b_name (set_ne rfl g2)) (v_name set_eq) i1)) v_int i0) (h_one (b_glob (set_ne rfl g6) rfl c1) (m_eq ho56))) (r_bool rfl) (andv_f rfl))))
        | true =>
          obtain ⟨n, rfl⟩ : ∃ n, r = .pl 56 n := by
            cases r with
            | sw ts => exact absurd ho56 (by simp [Row.op])
            | pl op n => exact ⟨n, by rw [show op = 56 from by simpa [Row.op] using ho56]⟩
          have harg : argAt R k = n := by unfold argAt; rw [Int.toNat_natCast, hr]
          have j1 : index (row (.pl 56 n)) (.int 1) = .ok (.int n) := rfl
          rw [hop, ho56, harg] at hb
          simp only [Bool.true_and] at hb
          cases hn : (n == (k : Int) + 1) with
          | false =>
            rw [hn] at hb
            simp only [Bool.false_and] at hb
            subst hb
            exact (x_set rfl rfl rfl (v_or1 (w_and (v_cmp (v_sub rfl (b_else rfl (v_sub rfl (b_name (set_ne rfl g2)) (v_name set_eq) i1)) v_int i0) (h_one (b_glob (set_ne rfl g6) rfl c1) (m_eq ho56))) (r_bool rfl) (andv_t rfl (w_and (v_cmp (v_sub rfl (b_else rfl (v_sub rfl (b_name (set_ne rfl g2)) (v_name set_eq) i1)) v_int j1) (h_one (b_else rfl (v_bin (v_name set_eq) v_int rfl)) (m_eq hn))) (r_bool rfl) (andv_f rfl))))))
          | true =>
            rw [hn] at hb
            simp only [Bool.true_and] at hb
            subst hb
            exact (x_set rfl rfl rfl (v_or1 (w_and (v_cmp (v_sub rfl (b_else rfl (v_sub rfl (b_name (set_ne rfl g2)) (v_name set_eq) i1)) v_int i0) (h_one (b_glob (set_ne rfl g6) rfl c1) (m_eq ho56))) (r_bool rfl) (andv_t rfl (w_and (v_cmp (v_sub rfl (b_else rfl (v_sub rfl (b_name (set_ne rfl g2)) (v_name set_eq) i1)) v_int j1) (h_one (b_else rfl (v_bin (v_name set_eq) v_int rfl)) (m_eq hn))) (r_bool rfl) (andv_t rfl (w_one (v_cmp (v_bin (v_name set_eq) v_int rfl) (h_one (b_else rfl (v_call (set_ne rfl g7) rfl (c_len rfl (b_name (set_ne rfl g2)) u_lenr))) (m_lt rfl))))))))))
      · cases b with
        | false => exact Eq.trans (v_or1 (w_or (v_not (b_name set_eq) (r_bool rfl)) (r_bool (nt_t rfl)) (orv_t rfl))) (by simp only [List.length_cons, List.length_nil, if_true, if_false, reduceIte, reduceCtorEq, Option.map_some, Option.map_none, Int.reduceLE, Int.reduceLT, Int.reduceToNat, List.getElem?_cons_zero, List.getElem?_cons_succ, cmp1i, cmp1in, Bool.false_eq_true, or_false, or_true, true_or, false_or, beq_self_eq_true, Nat.reduceAdd, decide_true, decide_false, binop_add, binop_sub, Bool.and_true, Bool.true_and, Bool.and_false, Bool.false_and, Bool.or_false, Bool.or_true, Bool.true_or, Bool.false_or, List.isEmpty_cons, List.isEmpty_nil, Bool.not_true, Bool.not_false, and_true, true_and, and_self, ne_eq, not_false_eq_true, List.length_map, cmpint, g4, he])
        | true =>
          cases h1 : isEdge cs k with
          | true => rw [h1] at hE1; exact Eq.trans (v_or1 (w_or (v_not (b_name set_eq) (r_bool rfl)) (r_bool (nt_f rfl)) (orv_f rfl (w_or (v_call (set_ne rfl (set_ne rfl g4)) rfl (c_fun he rfl (s_cons (v_name (set_ne rfl (set_ne rfl g3))) (s_cons (v_name (set_ne rfl set_eq)) s_nil)) hE1)) (r_bool rfl) (orv_t rfl))))) (by simp only [List.length_cons, List.length_nil, if_true, if_false, reduceIte, reduceCtorEq, Option.map_some, Option.map_none, Int.reduceLE, Int.reduceLT, Int.reduceToNat, List.getElem?_cons_zero, List.getElem?_cons_succ, cmp1i, cmp1in, Bool.false_eq_true, or_false, or_true, true_or, false_or, beq_self_eq_true, Nat.reduceAdd, decide_true, decide_false, binop_add, binop_sub, Bool.and_true, Bool.true_and, Bool.and_false, Bool.false_and, Bool.or_false, Bool.or_true, Bool.true_or, Bool.false_or, List.isEmpty_cons, List.isEmpty_nil, Bool.not_true, Bool.not_false, and_true, true_and, and_self, ne_eq, not_false_eq_true, List.length_map, cmpint, g3, g4, he, hE1])
          | false => rw [h1] at hE1; exact (v_or1 (w_or (v_not (b_name set_eq) (r_bool rfl)) (r_bool (nt_f rfl)) (orv_f rfl (w_or (v_call (set_ne rfl (set_ne rfl g4)) rfl (c_fun he rfl (s_cons (v_name (set_ne rfl (set_ne rfl g3))) (s_cons (v_name (set_ne rfl set_eq)) s_nil)) hE1)) (r_bool rfl) (orv_f rfl (w_one (v_call (set_ne rfl (set_ne rfl g4)) rfl (c_fun he rfl (s_cons (v_name (set_ne rfl (set_ne rfl g3))) (s_cons (v_bin (v_name (set_ne rfl set_eq)) v_int rfl) s_nil)) hE2))))))))
      all_goals (first | exact set_eq | exact (set_ne rfl (set_ne rfl (set_ne rfl g2))) | exact (set_ne rfl (set_ne rfl (set_ne rfl g3))) | exact (set_ne rfl (set_ne rfl (set_ne rfl g4))) | exact (set_ne rfl (set_ne rfl (set_ne rfl g5))) | exact (set_ne rfl (set_ne rfl (set_ne rfl g6))) | exact (set_ne rfl (set_ne rfl (set_ne rfl g7))))
    · have hm' : (rangeD R.length).map (fun d => match d with | .int i => .bool (keepB R cs i.toNat) | d => d) = fs.map PyData.bool := by
        rw [← hfs]
        unfold rangeD keptT
        rw [Int.toNat_natCast, List.map_map, List.map_map]
        refine List.map_congr_left fun a _ => ?_
        simp only [Function.comp, Int.toNat_natCast]
      rw [hm'] at g1
      have hfl : R.length = fs.length := by rw [← hfs]; simp [keptT]
      have hK := hφk R fs hfl (by omega) hgood hl1
      refine exs_nxt (by exact (x_setz rfl rfl rfl (v_call (fr_none g5) rfl (c_fun hk rfl (s_cons (v_name (fr_in rfl g2)) (s_cons (v_name (fr_out rfl g3)) (s_cons (v_name (fr_in rfl g1)) s_nil))) hK)))) (exs_ret ?_)
      exact Eq.trans (x_ret rfl (v_tup (s_cons (v_sub rfl (b_name set_eq) v_int rfl) (s_cons (v_sub rfl (b_name set_eq) v_int rfl) s_nil)) rfl)) (by simp only [List.length_cons, List.length_nil, if_true, if_false, reduceIte, reduceCtorEq, Option.map_some, Option.map_none, Int.reduceLE, Int.reduceLT, Int.reduceToNat, List.getElem?_cons_zero, List.getElem?_cons_succ, cmp1i, cmp1in, Bool.false_eq_true, or_false, or_true, true_or, false_or, beq_self_eq_true, Nat.reduceAdd, decide_true, decide_false, binop_add, binop_sub, Bool.and_true, Bool.true_and, Bool.and_false, Bool.false_and, Bool.or_false, Bool.or_true, Bool.true_or, Bool.false_or, List.isEmpty_cons, List.isEmpty_nil, Bool.not_true, Bool.not_false, and_true, true_and, and_self, ne_eq, not_false_eq_true, List.length_map, cmpint, outP, pairD])
end
end
section
set_option maxRecDepth 100000
set_option linter.unusedVariables false
set_option linter.unusedSimpArgs false

section
variable {T : Tab} {fz : Nat → List Str} {n : Nat} {sc : Scope} {Γ : Vars} {o : Out} {pos : Pos}
theorem go_for_any {x : Str} {p : Pos} {it : Expr} {b r : List Stmt} {ds : List PyData} {Q : Vars → Prop} (I : Vars → Prop) (hz : fz pos.line = []) (hx : storable sc x = true) (h : evFor T n sc Γ it = .ok ds) (hI : I Γ)
    (s1 : ∀ d ∈ ds, ∀ Γ, I Γ → Goes (exs T fz n sc (Γ.set x d false) b) I) (rest : ∀ Γ', I Γ' → Goes (exs T fz (n + 1) sc Γ' r) Q) : Goes (exs T fz (n + 2) sc Γ (.For (.Name x p) it b [] pos :: r)) Q := by
  have key := forL_any (fun Γ => exs T fz n sc Γ b) x I (fun _ => false) .exc (fun _ q => by cases q) ds Γ hI (fun d hd Γ hI _ => s1 d hd Γ hI) (fun _ _ _ _ q => by cases q)
  rw [show ds.any (fun _ => false) = false from by induction ds <;> simp_all, if_neg (by decide)] at key
  obtain ⟨Γ', e, hI'⟩ := key
  exact go_nxt (efor hz hx h e) (rest Γ' hI')
theorem for_any_stop {x : Str} {p : Pos} {it : Expr} {b r : List Stmt} {ds : List PyData} (P : PyData → Bool) (ho : ∀ Γ, o ≠ .nxt Γ) (I : Vars → Prop) (hz : fz pos.line = []) (hx : storable sc x = true) (h : evFor T n sc Γ it = .ok ds) (hI : I Γ) (hP : ds.any P = true)
    (s1 : ∀ d ∈ ds, ∀ Γ, I Γ → P d = false → Goes (exs T fz n sc (Γ.set x d false) b) I) (s2 : ∀ d ∈ ds, ∀ Γ, I Γ → P d = true → exs T fz n sc (Γ.set x d false) b = o) : exs T fz (n + 2) sc Γ (.For (.Name x p) it b [] pos :: r) = o := by
  have key := forL_any (fun Γ => exs T fz n sc Γ b) x I P o ho ds Γ hI s1 s2
  rw [hP, if_pos rfl] at key
  exact exs_end (efor hz hx h key) ho
end

noncomputable def edgeBad (code : List Row) (n : Int) : Bool := decide (n < 0) || (decide (n > (code.length : Int)) || (decide (n > 0) && decide (pre (opAt code (n - 1)) ≥ 0)))
noncomputable def clBad0 (code : List Row) (c : Cl) : Bool := decide (c.a ≥ (code.length : Int)) || (decide (c.c ≥ (code.length : Int)) || (c.s == 1 && decide (c.e ≥ (code.length : Int))))
noncomputable def clBad (code : List Row) (c : Cl) : Bool := clBad0 code c || (edgesOf c).any (edgeBad code)

section
variable (T : Tab) (φe φp : List PyData → Res PyData) (code : List Row) (cs : List Cl)
theorem sem_check_edges (c1 : T.consts "EC_FILTER" = some 1) (he : T.funs "clause_edges" = some φe) (hp : T.funs "prefix_goal" = some φp) (hφe : ∀ c, φe [cl c] = .ok (tup (edgesOf c))) (hφp : ∀ op, φp [.int op] = .ok (.int (pre op))) (hm : cs.length ≤ 90) :
    runDef T frz fuel F_check_edges.1.scope ["code", "clauses"] (bodyOf F_check_edges.1) [rws code, cls cs] = if cs.any (clBad code) then .exc else .ok .none := by
  have hP : (rangeD cs.length).any (fun d => match d with | .int i => (match cs[i.toNat]? with | some c => clBad code c | none => false) | _ => false) = cs.any (clBad code) := by
    unfold rangeD
    rw [Int.toNat_natCast, List.any_map, Bool.eq_iff_iff, List.any_eq_true, List.any_eq_true]
    constructor
    · rintro ⟨k, hk, h⟩
      simp only [Function.comp, Int.toNat_natCast] at h
      split at h
      · rename_i c hc; exact ⟨c, List.mem_of_getElem? hc, h⟩
      · cases h
    · rintro ⟨c, hc, h⟩
      obtain ⟨k, hk⟩ := List.getElem?_of_mem hc
      refine ⟨k, List.mem_range.mpr (getE hk), ?_⟩
      simp only [Function.comp, Int.toNat_natCast, hk, h]
  have hE : ∀ c, (il (edgesOf c)).any (fun d => match d with | .int n => edgeBad code n | _ => false) = (edgesOf c).any (edgeBad code) := fun c => by unfold il; rw [List.any_map]; rfl
  -- one edge
  have cond : ∀ (g : Int), g ≤ (code.length : Int) → 0 < g → index (rws code) (.int (g - 1)) = .ok (row ((code[(g - 1).toNat]?).getD (.pl 0 0))) ∧ opAt code (g - 1) = ((code[(g - 1).toNat]?).getD (.pl 0 0)).op := by
    intro g h1 h2
    obtain ⟨r, hr, hi, hop⟩ := rowAt (code := code) (j := g - 1) (okG_iff.mpr ⟨by omega, by omega⟩)
    rw [hr]; exact ⟨hi, hop⟩
  -- the clause's own condition
  have c0 : ∀ (n : Nat) (Γ : Vars) (c : Cl) (e : Expr), True := fun _ _ _ _ => trivial
  have bodyGood : ∀ (k : Nat) (c : Cl) (Γ : Vars), cs[k]? = some c → clBad code c = false → (Γ "code" = some (rws code, false) ∧ Γ "clauses" = some (cls cs, false) ∧ Γ "count" = some (.int code.length, false) ∧ Γ "EC_FILTER" = none ∧ Γ "clause_edges" = none ∧ Γ "prefix_goal" = none ∧ Γ "BadCode" = none) → True := fun _ _ _ _ _ _ => trivial
  cases hB : cs.any (clBad code) with
  | true =>
    rw [if_pos rfl]
    rw [hB] at hP
    refine run_exc rfl ?_
    simp only [F_check_edges, bodyOf, fuel, bindV_cons, bindV_nil, isGlob]
    refine exs_nxt (by exact (x_set rfl rfl rfl (v_call (set_ne rfl (set_ne rfl emp_eq)) rfl (c_len rfl (b_name set_eq) u_lenr)))) ?_
    refine for_any_stop (ds := rangeD cs.length) (fun d => match d with | .int i => (match cs[i.toNat]? with | some c => clBad code c | none => false) | _ => false) (fun _ q => by cases q) (fun Γ => Γ "code" = some (rws code, false) ∧ Γ "clauses" = some (cls cs, false) ∧ Γ "count" = some (.int code.length, false) ∧ Γ "EC_FILTER" = none ∧ Γ "clause_edges" = none ∧ Γ "prefix_goal" = none ∧ Γ "BadCode" = none) rfl rfl
      (evFor_range (by omega) (by exact (set_ne rfl (set_ne rfl (set_ne rfl emp_eq)))) rfl (by exact (v_call (set_ne rfl (set_ne rfl (set_ne rfl emp_eq))) rfl (c_len rfl (b_name (set_ne rfl (set_ne rfl set_eq))) u_lenc)))) ⟨by exact (set_ne rfl set_eq), by exact (set_ne rfl (set_ne rfl set_eq)), by exact set_eq, by exact (set_ne rfl (set_ne rfl (set_ne rfl emp_eq))), by exact (set_ne rfl (set_ne rfl (set_ne rfl emp_eq))), by exact (set_ne rfl (set_ne rfl (set_ne rfl emp_eq))), by exact (set_ne rfl (set_ne rfl (set_ne rfl emp_eq)))⟩ hP (fun d hd Γ ⟨h1, h2, h3, h4, h5, h6, h7⟩ hp' => ?_) (fun d hd Γ ⟨h1, h2, h3, h4, h5, h6, h7⟩ hp' => ?_)
    · obtain ⟨k, hk, rfl⟩ := List.mem_map.mp hd
      rw [Int.toNat_natCast] at hk
      have hkl := List.mem_range.mp hk
      obtain ⟨c, hc⟩ : ∃ c, cs[k]? = some c := ⟨cs[k], by simp⟩
      have i1 : index (.list (cs.map cl)) (.int k) = .ok (cl c) := idx_list (by simp [hc])
      simp only [Int.toNat_natCast, hc] at hp'
      unfold clBad clBad0 at hp'
      rw [Bool.or_eq_false_iff, Bool.or_eq_false_iff, Bool.or_eq_false_iff] at hp'
      obtain ⟨⟨ha, hcc, hse⟩, hed⟩ := hp'
      refine go_nxt (by exact (x_set rfl rfl rfl (v_sub rfl (b_name (set_ne rfl h2)) (v_name set_eq) i1))) ?_
      refine go_nxt (eif_f rfl ?_ exs_nil) ?_
      · cases hs : (c.s == 1) with
        | false => exact (t_all (a_or (t_cmp (v_sub rfl (b_name set_eq) v_int rfl) (h_one (b_name (set_ne rfl (set_ne rfl h3))) (m_ge ha))) (or_f rfl (a_or (t_cmp (v_sub rfl (b_name set_eq) v_int rfl) (h_one (b_name (set_ne rfl (set_ne rfl h3))) (m_ge hcc))) (or_f rfl (a_or (t_all (a_and (t_cmp (v_sub rfl (b_name set_eq) v_int rfl) (h_one (b_glob (set_ne rfl (set_ne rfl h4)) rfl c1) (m_eq hs))) (and_f rfl))) (or_f rfl a_nilo)))))))
        | true =>
          rw [hs, Bool.true_and] at hse
          exact (t_all (a_or (t_cmp (v_sub rfl (b_name set_eq) v_int rfl) (h_one (b_name (set_ne rfl (set_ne rfl h3))) (m_ge ha))) (or_f rfl (a_or (t_cmp (v_sub rfl (b_name set_eq) v_int rfl) (h_one (b_name (set_ne rfl (set_ne rfl h3))) (m_ge hcc))) (or_f rfl (a_or (t_all (a_and (t_cmp (v_sub rfl (b_name set_eq) v_int rfl) (h_one (b_glob (set_ne rfl (set_ne rfl h4)) rfl c1) (m_eq hs))) (and_t rfl (a_and (t_cmp (v_sub rfl (b_name set_eq) v_int rfl) (h_one (b_name (set_ne rfl (set_ne rfl h3))) (m_ge hse))) (and_f rfl))))) (or_f rfl a_nilo)))))))
      · refine go_for_any (ds := il (edgesOf c)) (fun Γ => Γ "code" = some (rws code, false) ∧ Γ "clauses" = some (cls cs, false) ∧ Γ "count" = some (.int code.length, false) ∧ Γ "EC_FILTER" = none ∧ Γ "clause_edges" = none ∧ Γ "prefix_goal" = none ∧ Γ "BadCode" = none) rfl rfl
          (by exact (o_call rfl (v_call (set_ne rfl (set_ne rfl h5)) rfl (c_fun he rfl (s_cons (v_name set_eq) s_nil) (hφe _))) rfl)) ⟨by exact (set_ne rfl (set_ne rfl h1)), by exact (set_ne rfl (set_ne rfl h2)), by exact (set_ne rfl (set_ne rfl h3)), by exact (set_ne rfl (set_ne rfl h4)), by exact (set_ne rfl (set_ne rfl h5)), by exact (set_ne rfl (set_ne rfl h6)), by exact (set_ne rfl (set_ne rfl h7))⟩ (fun d hd Γ ⟨h1, h2, h3, h4, h5, h6, h7⟩ => ?_) (fun Γ' h => go_nil h)
        obtain ⟨g, hg, rfl⟩ := List.mem_map.mp hd
        have hb := List.any_eq_false.mp hed g hg
        simp only [Bool.not_eq_true] at hb
        unfold edgeBad at hb
        rw [Bool.or_eq_false_iff, Bool.or_eq_false_iff] at hb
        obtain ⟨q1, q2, q3⟩ := hb
        refine go_nxt (eif_f rfl ?_ exs_nil) (go_nil ⟨by exact (set_ne rfl h1), by exact (set_ne rfl h2), by exact (set_ne rfl h3), by exact (set_ne rfl h4), by exact (set_ne rfl h5), by exact (set_ne rfl h6), by exact (set_ne rfl h7)⟩)
        cases q : decide (g > 0) with
        | false => exact (t_all (a_or (t_cmp (v_name set_eq) (h_one (b_else rfl v_int) (m_lt q1))) (or_f rfl (a_or (t_cmp (v_name set_eq) (h_one (b_name (set_ne rfl h3)) (m_gt q2))) (or_f rfl (a_or (t_all (a_and (t_cmp (v_name set_eq) (h_one (b_else rfl v_int) (m_gt q))) (and_f rfl))) (or_f rfl a_nilo)))))))
        | true =>
          rw [q, Bool.true_and] at q3
          obtain ⟨w1, w2⟩ := cond g (by simpa using q2) (by simpa using q)
          have i0 := idx_row0 ((code[(g - 1).toNat]?).getD (.pl 0 0))
          rw [w2] at q3
          exact (t_all (a_or (t_cmp (v_name set_eq) (h_one (b_else rfl v_int) (m_lt q1))) (or_f rfl (a_or (t_cmp (v_name set_eq) (h_one (b_name (set_ne rfl h3)) (m_gt q2))) (or_f rfl (a_or (t_all (a_and (t_cmp (v_name set_eq) (h_one (b_else rfl v_int) (m_gt q))) (and_t rfl (a_and (t_cmp (v_call (set_ne rfl h6) rfl (c_fun hp rfl (s_cons (v_sub rfl (b_else rfl (v_sub rfl (b_name (set_ne rfl h1)) (v_bin (v_name set_eq) v_int rfl) w1)) v_int i0) s_nil) (hφp _))) (h_one (b_else rfl v_int) (m_ge q3))) (and_f rfl))))) (or_f rfl a_nilo)))))))
    · obtain ⟨k, hk, rfl⟩ := List.mem_map.mp hd
      rw [Int.toNat_natCast] at hk
      have hkl := List.mem_range.mp hk
      obtain ⟨c, hc⟩ : ∃ c, cs[k]? = some c := ⟨cs[k], by simp⟩
      have i1 : index (.list (cs.map cl)) (.int k) = .ok (cl c) := idx_list (by simp [hc])
      simp only [Int.toNat_natCast, hc] at hp'
      refine exs_nxt (by exact (x_set rfl rfl rfl (v_sub rfl (b_name (set_ne rfl h2)) (v_name set_eq) i1))) ?_
      cases h0 : clBad0 code c with
      | true =>
        refine exs_exc (eif_t rfl ?_ (exs_exc (by exact (x_raise rfl (set_ne rfl (set_ne rfl h7)) rfl (s_cons v_str (s_cons (v_name (set_ne rfl set_eq)) s_nil))))))
        unfold clBad0 at h0
        cases ha : decide (c.a ≥ (code.length : Int)) with
        | true => exact (t_all (a_or (t_cmp (v_sub rfl (b_name set_eq) v_int rfl) (h_one (b_name (set_ne rfl (set_ne rfl h3))) (m_ge ha))) (or_t rfl)))
        | false =>
          cases hcc : decide (c.c ≥ (code.length : Int)) with
          | true => exact (t_all (a_or (t_cmp (v_sub rfl (b_name set_eq) v_int rfl) (h_one (b_name (set_ne rfl (set_ne rfl h3))) (m_ge ha))) (or_f rfl (a_or (t_cmp (v_sub rfl (b_name set_eq) v_int rfl) (h_one (b_name (set_ne rfl (set_ne rfl h3))) (m_ge hcc))) (or_t rfl)))))
          | false =>
            rw [ha, hcc, Bool.false_or, Bool.false_or, Bool.and_eq_true] at h0
            exact (t_all (a_or (t_cmp (v_sub rfl (b_name set_eq) v_int rfl) (h_one (b_name (set_ne rfl (set_ne rfl h3))) (m_ge ha))) (or_f rfl (a_or (t_cmp (v_sub rfl (b_name set_eq) v_int rfl) (h_one (b_name (set_ne rfl (set_ne rfl h3))) (m_ge hcc))) (or_f rfl (a_or (t_all (a_and (t_cmp (v_sub rfl (b_name set_eq) v_int rfl) (h_one (b_glob (set_ne rfl (set_ne rfl h4)) rfl c1) (m_eq (And.left h0)))) (and_t rfl (a_and (t_cmp (v_sub rfl (b_name set_eq) v_int rfl) (h_one (b_name (set_ne rfl (set_ne rfl h3))) (m_ge (And.right h0)))) (and_t rfl a_nila))))) (or_t rfl)))))))
      | false =>
        unfold clBad at hp'
        rw [h0, Bool.false_or] at hp'
        unfold clBad0 at h0
        rw [Bool.or_eq_false_iff, Bool.or_eq_false_iff] at h0
        obtain ⟨ha, hcc, hse⟩ := h0
        refine exs_nxt (eif_f rfl ?_ exs_nil) ?_
        · cases hs : (c.s == 1) with
          | false => exact (t_all (a_or (t_cmp (v_sub rfl (b_name set_eq) v_int rfl) (h_one (b_name (set_ne rfl (set_ne rfl h3))) (m_ge ha))) (or_f rfl (a_or (t_cmp (v_sub rfl (b_name set_eq) v_int rfl) (h_one (b_name (set_ne rfl (set_ne rfl h3))) (m_ge hcc))) (or_f rfl (a_or (t_all (a_and (t_cmp (v_sub rfl (b_name set_eq) v_int rfl) (h_one (b_glob (set_ne rfl (set_ne rfl h4)) rfl c1) (m_eq hs))) (and_f rfl))) (or_f rfl a_nilo)))))))
          | true =>
            rw [hs, Bool.true_and] at hse
            exact (t_all (a_or (t_cmp (v_sub rfl (b_name set_eq) v_int rfl) (h_one (b_name (set_ne rfl (set_ne rfl h3))) (m_ge ha))) (or_f rfl (a_or (t_cmp (v_sub rfl (b_name set_eq) v_int rfl) (h_one (b_name (set_ne rfl (set_ne rfl h3))) (m_ge hcc))) (or_f rfl (a_or (t_all (a_and (t_cmp (v_sub rfl (b_name set_eq) v_int rfl) (h_one (b_glob (set_ne rfl (set_ne rfl h4)) rfl c1) (m_eq hs))) (and_t rfl (a_and (t_cmp (v_sub rfl (b_name set_eq) v_int rfl) (h_one (b_name (set_ne rfl (set_ne rfl h3))) (m_ge hse))) (and_f rfl))))) (or_f rfl a_nilo)))))))
        · refine for_any_stop (ds := il (edgesOf c)) (fun d => match d with | .int n => edgeBad code n | _ => false) (fun _ q => by cases q) (fun Γ => Γ "code" = some (rws code, false) ∧ Γ "count" = some (.int code.length, false) ∧ Γ "prefix_goal" = none ∧ Γ "BadCode" = none ∧ Γ "at" = some (.int k, false)) rfl rfl
            (by exact (o_call rfl (v_call (set_ne rfl (set_ne rfl h5)) rfl (c_fun he rfl (s_cons (v_name set_eq) s_nil) (hφe _))) rfl)) ⟨by exact (set_ne rfl (set_ne rfl h1)), by exact (set_ne rfl (set_ne rfl h3)), by exact (set_ne rfl (set_ne rfl h6)), by exact (set_ne rfl (set_ne rfl h7)), by exact (set_ne rfl set_eq)⟩ ((hE c).trans hp') (fun d hd Γ ⟨h1, h3, h6, h7, h8⟩ hb => ?_) (fun d hd Γ ⟨h1, h3, h6, h7, h8⟩ hb => ?_)
          · obtain ⟨g, hg, rfl⟩ := List.mem_map.mp hd
            simp only at hb
            unfold edgeBad at hb
            rw [Bool.or_eq_false_iff, Bool.or_eq_false_iff] at hb
            obtain ⟨q1, q2, q3⟩ := hb
            refine go_nxt (eif_f rfl ?_ exs_nil) (go_nil ⟨by exact (set_ne rfl h1), by exact (set_ne rfl h3), by exact (set_ne rfl h6), by exact (set_ne rfl h7), by exact (set_ne rfl h8)⟩)
            cases q : decide (g > 0) with
            | false => exact (t_all (a_or (t_cmp (v_name set_eq) (h_one (b_else rfl v_int) (m_lt q1))) (or_f rfl (a_or (t_cmp (v_name set_eq) (h_one (b_name (set_ne rfl h3)) (m_gt q2))) (or_f rfl (a_or (t_all (a_and (t_cmp (v_name set_eq) (h_one (b_else rfl v_int) (m_gt q))) (and_f rfl))) (or_f rfl a_nilo)))))))
            | true =>
              rw [q, Bool.true_and] at q3
              obtain ⟨w1, w2⟩ := cond g (by simpa using q2) (by simpa using q)
              have i0 := idx_row0 ((code[(g - 1).toNat]?).getD (.pl 0 0))
              rw [w2] at q3
              exact (t_all (a_or (t_cmp (v_name set_eq) (h_one (b_else rfl v_int) (m_lt q1))) (or_f rfl (a_or (t_cmp (v_name set_eq) (h_one (b_name (set_ne rfl h3)) (m_gt q2))) (or_f rfl (a_or (t_all (a_and (t_cmp (v_name set_eq) (h_one (b_else rfl v_int) (m_gt q))) (and_t rfl (a_and (t_cmp (v_call (set_ne rfl h6) rfl (c_fun hp rfl (s_cons (v_sub rfl (b_else rfl (v_sub rfl (b_name (set_ne rfl h1)) (v_bin (v_name set_eq) v_int rfl) w1)) v_int i0) s_nil) (hφp _))) (h_one (b_else rfl v_int) (m_ge q3))) (and_f rfl))))) (or_f rfl a_nilo)))))))
          · obtain ⟨g, hg, rfl⟩ := List.mem_map.mp hd
            simp only at hb
            unfold edgeBad at hb
            refine exs_exc (eif_t rfl ?_ (exs_exc (by exact (x_raise rfl (set_ne rfl h7) rfl (s_cons v_str (s_cons (v_name (set_ne rfl h8)) s_nil))))))
            cases q1 : decide (g < 0) with
            | true => exact (t_all (a_or (t_cmp (v_name set_eq) (h_one (b_else rfl v_int) (m_lt q1))) (or_t rfl)))
            | false =>
              cases q2 : decide (g > (code.length : Int)) with
              | true => exact (t_all (a_or (t_cmp (v_name set_eq) (h_one (b_else rfl v_int) (m_lt q1))) (or_f rfl (a_or (t_cmp (v_name set_eq) (h_one (b_name (set_ne rfl h3)) (m_gt q2))) (or_t rfl)))))
              | false =>
                rw [q1, q2, Bool.false_or, Bool.false_or, Bool.and_eq_true] at hb
                obtain ⟨w1, w2⟩ := cond g (by simpa using q2) (by simpa using hb.1)
                have i0 := idx_row0 ((code[(g - 1).toNat]?).getD (.pl 0 0))
                have q3 := hb.2
                rw [w2] at q3
                exact (t_all (a_or (t_cmp (v_name set_eq) (h_one (b_else rfl v_int) (m_lt q1))) (or_f rfl (a_or (t_cmp (v_name set_eq) (h_one (b_name (set_ne rfl h3)) (m_gt q2))) (or_f rfl (a_or (t_all (a_and (t_cmp (v_name set_eq) (h_one (b_else rfl v_int) (m_gt (And.left hb)))) (and_t rfl (a_and (t_cmp (v_call (set_ne rfl h6) rfl (c_fun hp rfl (s_cons (v_sub rfl (b_else rfl (v_sub rfl (b_name (set_ne rfl h1)) (v_bin (v_name set_eq) v_int rfl) w1)) v_int i0) s_nil) (hφp _))) (h_one (b_else rfl v_int) (m_ge q3))) (and_t rfl a_nila))))) (or_t rfl)))))))
  | false =>
    rw [if_neg (by decide)]
    rw [hB] at hP
    have hgo : Goes (exs T frz 60 F_check_edges.1.scope (bindV ["code", "clauses"] [rws code, cls cs]) (bodyOf F_check_edges.1)) (fun _ => True) := by
      simp only [F_check_edges, bodyOf, fuel, bindV_cons, bindV_nil, isGlob]
      refine go_nxt (by exact (x_set rfl rfl rfl (v_call (set_ne rfl (set_ne rfl emp_eq)) rfl (c_len rfl (b_name set_eq) u_lenr)))) ?_
      refine go_for_any (ds := rangeD cs.length) (fun Γ => Γ "code" = some (rws code, false) ∧ Γ "clauses" = some (cls cs, false) ∧ Γ "count" = some (.int code.length, false) ∧ Γ "EC_FILTER" = none ∧ Γ "clause_edges" = none ∧ Γ "prefix_goal" = none ∧ Γ "BadCode" = none) rfl rfl
        (evFor_range (by omega) (by exact (set_ne rfl (set_ne rfl (set_ne rfl emp_eq)))) rfl (by exact (v_call (set_ne rfl (set_ne rfl (set_ne rfl emp_eq))) rfl (c_len rfl (b_name (set_ne rfl (set_ne rfl set_eq))) u_lenc)))) ⟨by exact (set_ne rfl set_eq), by exact (set_ne rfl (set_ne rfl set_eq)), by exact set_eq, by exact (set_ne rfl (set_ne rfl (set_ne rfl emp_eq))), by exact (set_ne rfl (set_ne rfl (set_ne rfl emp_eq))), by exact (set_ne rfl (set_ne rfl (set_ne rfl emp_eq))), by exact (set_ne rfl (set_ne rfl (set_ne rfl emp_eq)))⟩ (fun d hd Γ ⟨h1, h2, h3, h4, h5, h6, h7⟩ => ?_) (fun Γ' _ => go_nil trivial)
      have hp' := List.any_eq_false.mp hP d hd
      simp only [Bool.not_eq_true] at hp'
      obtain ⟨k, hk, rfl⟩ := List.mem_map.mp hd
      rw [Int.toNat_natCast] at hk
      have hkl := List.mem_range.mp hk
      obtain ⟨c, hc⟩ : ∃ c, cs[k]? = some c := ⟨cs[k], by simp⟩
      have i1 : index (.list (cs.map cl)) (.int k) = .ok (cl c) := idx_list (by simp [hc])
      simp only [Int.toNat_natCast, hc] at hp'
      unfold clBad clBad0 at hp'
      rw [Bool.or_eq_false_iff, Bool.or_eq_false_iff, Bool.or_eq_false_iff] at hp'
      obtain ⟨⟨ha, hcc, hse⟩, hed⟩ := hp'
      refine go_nxt (by exact (x_set rfl rfl rfl (v_sub rfl (b_name (set_ne rfl h2)) (v_name set_eq) i1))) ?_
      refine go_nxt (eif_f rfl ?_ exs_nil) ?_
      · cases hs : (c.s == 1) with
        | false => exact (t_all (a_or (t_cmp (v_sub rfl (b_name set_eq) v_int rfl) (h_one (b_name (set_ne rfl (set_ne rfl h3))) (m_ge ha))) (or_f rfl (a_or (t_cmp (v_sub rfl (b_name set_eq) v_int rfl) (h_one (b_name (set_ne rfl (set_ne rfl h3))) (m_ge hcc))) (or_f rfl (a_or (t_all (a_and (t_cmp (v_sub rfl (b_name set_eq) v_int rfl) (h_one (b_glob (set_ne rfl (set_ne rfl h4)) rfl c1) (m_eq hs))) (and_f rfl))) (or_f rfl a_nilo)))))))
        | true =>
          rw [hs, Bool.true_and] at hse
          exact (t_all (a_or (t_cmp (v_sub rfl (b_name set_eq) v_int rfl) (h_one (b_name (set_ne rfl (set_ne rfl h3))) (m_ge ha))) (or_f rfl (a_or (t_cmp (v_sub rfl (b_name set_eq) v_int rfl) (h_one (b_name (set_ne rfl (set_ne rfl h3))) (m_ge hcc))) (or_f rfl (a_or (t_all (a_and (t_cmp (v_sub rfl (b_name set_eq) v_int rfl) (h_one (b_glob (set_ne rfl (set_ne rfl h4)) rfl c1) (m_eq hs))) (and_t rfl (a_and (t_cmp (v_sub rfl (b_name set_eq) v_int rfl) (h_one (b_name (set_ne rfl (set_ne rfl h3))) (m_ge hse))) (and_f rfl))))) (or_f rfl a_nilo)))))))
      · refine go_for_any (ds := il (edgesOf c)) (fun Γ => Γ "code" = some (rws code, false) ∧ Γ "clauses" = some (cls cs, false) ∧ Γ "count" = some (.int code.length, false) ∧ Γ "EC_FILTER" = none ∧ Γ "clause_edges" = none ∧ Γ "prefix_goal" = none ∧ Γ "BadCode" = none) rfl rfl
          (by exact (o_call rfl (v_call (set_ne rfl (set_ne rfl h5)) rfl (c_fun he rfl (s_cons (v_name set_eq) s_nil) (hφe _))) rfl)) ⟨by exact (set_ne rfl (set_ne rfl h1)), by exact (set_ne rfl (set_ne rfl h2)), by exact (set_ne rfl (set_ne rfl h3)), by exact (set_ne rfl (set_ne rfl h4)), by exact (set_ne rfl (set_ne rfl h5)), by exact (set_ne rfl (set_ne rfl h6)), by exact (set_ne rfl (set_ne rfl h7))⟩ (fun d hd Γ ⟨h1, h2, h3, h4, h5, h6, h7⟩ => ?_) (fun Γ' h => go_nil h)
        obtain ⟨g, hg, rfl⟩ := List.mem_map.mp hd
        have hb := List.any_eq_false.mp hed g hg
        simp only [Bool.not_eq_true] at hb
        unfold edgeBad at hb
        rw [Bool.or_eq_false_iff, Bool.or_eq_false_iff] at hb
        obtain ⟨q1, q2, q3⟩ := hb
        refine go_nxt (eif_f rfl ?_ exs_nil) (go_nil ⟨by exact (set_ne rfl h1), by exact (set_ne rfl h2), by exact (set_ne rfl h3), by exact (set_ne rfl h4), by exact (set_ne rfl h5), by exact (set_ne rfl h6), by exact (set_ne rfl h7)⟩)
        cases q : decide (g > 0) with
        | false => exact (t_all (a_or (t_cmp (v_name set_eq) (h_one (b_else rfl v_int) (m_lt q1))) (or_f rfl (a_or (t_cmp (v_name set_eq) (h_one (b_name (set_ne rfl h3)) (m_gt q2))) (or_f rfl (a_or (t_all (a_and (t_cmp (v_name set_eq) (h_one (b_else rfl v_int) (m_gt q))) (and_f rfl))) (or_f rfl a_nilo)))))))
        | true =>
          rw [q, Bool.true_and] at q3
          obtain ⟨w1, w2⟩ := cond g (by simpa using q2) (by simpa using q)
          have i0 := idx_row0 ((code[(g - 1).toNat]?).getD (.pl 0 0))
          rw [w2] at q3
          exact (t_all (a_or (t_cmp (v_name set_eq) (h_one (b_else rfl v_int) (m_lt q1))) (or_f rfl (a_or (t_cmp (v_name set_eq) (h_one (b_name (set_ne rfl h3)) (m_gt q2))) (or_f rfl (a_or (t_all (a_and (t_cmp (v_name set_eq) (h_one (b_else rfl v_int) (m_gt q))) (and_t rfl (a_and (t_cmp (v_call (set_ne rfl h6) rfl (c_fun hp rfl (s_cons (v_sub rfl (b_else rfl (v_sub rfl (b_name (set_ne rfl h1)) (v_bin (v_name set_eq) v_int rfl) w1)) v_int i0) s_nil) (hφp _))) (h_one (b_else rfl v_int) (m_ge q3))) (and_f rfl))))) (or_f rfl a_nilo)))))))
    obtain ⟨Γ', e, _⟩ := hgo
    exact run_nxt rfl e
end
end
section
set_option maxRecDepth 100000
set_option linter.unusedVariables false
set_option linter.unusedSimpArgs false

structure OkSt (code : List Row) (cs : List Cl) : Prop where
  wf : ∀ r ∈ code, r.wf
  len : code.length ≤ 90
  clen : cs.length ≤ 90
  edge : ∀ c ∈ cs, ∀ g ∈ edgesOf c, inR (code.length + 1) g

theorem cnt_le (fs : List Bool) (j : Nat) : 0 ≤ cnt fs j ∧ cnt fs j ≤ ((fs.count true : Nat) : Int) := by
  unfold cnt
  refine ⟨Int.natCast_nonneg _, Int.ofNat_le.mpr ?_⟩
  exact List.Sublist.count_le true (List.take_sublist j fs)
theorem at_places {fs : List Bool} {g : Int} (h : inR (fs.length + 1) g) : at_ (placesOf fs) g = cnt fs g.toNat := by
  obtain ⟨h0, h1⟩ := h
  have : g.toNat < fs.length + 1 := by omega
  unfold at_ placesOf
  rw [List.getElem?_map, List.getElem?_range this]; rfl
theorem placesOf_len (fs : List Bool) : (placesOf fs).length = fs.length + 1 := by simp [placesOf]
theorem keepR_len (P : List Int) : ∀ (rs : List Row) (fs : List Bool), rs.length = fs.length → (keepR P rs fs).length = fs.count true
  | [], [], _ => rfl
  | r :: rs, f :: fs, h => by
    have ih := keepR_len P rs fs (by simpa using h)
    unfold keepR at ih ⊢
    rw [List.length_map] at ih ⊢
    rw [List.zip_cons_cons]
    cases f
    · simp only [List.filter_cons, Bool.false_eq_true, if_false]
      rw [ih]; simp
    · simp only [List.filter_cons, if_true, List.length_cons]
      rw [ih]; simp
  | [], _ :: _, h => by simp at h
  | _ :: _, [], h => by simp at h
theorem edgesOf_mv (P : List Int) (c : Cl) : edgesOf (mvCl P c) = (edgesOf c).map (at_ P) := by
  unfold edgesOf mvCl
  cases h : (c.s == 1) <;> simp [h]
theorem mvRow_wf {P : List Int} {r : Row} (h : r.wf) : (mvRow P r).wf := by
  cases r with
  | sw ts => show (ts.map (at_ P)).length ≤ 90; rw [List.length_map]; exact h
  | pl op n => simp only [mvRow]; split <;> exact h

theorem OkSt.next {code code' : List Row} {cs cs' : List Cl} (S : OkSt code cs) (h : threadRound code cs = some (code', cs')) : OkSt code' cs' ∧ code'.length ≤ code.length := by
  obtain ⟨rs, hr, e⟩ := Option.map_eq_some_iff.mp h
  obtain ⟨h1, h2⟩ := mapO_some hr
  rw [List.length_range] at h1
  have hfl : rs.length = (keptT rs cs).length := by simp [keptT]
  cases e
  have hl := keepR_len (placesOf (keptT rs cs)) rs (keptT rs cs) hfl
  have hc : (keptT rs cs).count true ≤ (keptT rs cs).length := List.count_le_length
  refine ⟨⟨fun r hr' => ?_, by rw [hl]; have := S.len; omega, by rw [List.length_map]; exact S.clen, fun c hc' g hg => ?_⟩, by rw [hl]; omega⟩
  · obtain ⟨p, hp, rfl⟩ := List.mem_map.mp hr'
    have hp1 := (List.of_mem_zip (List.mem_filter.mp hp).1).1
    obtain ⟨i, _, hf⟩ := mapO_mem hr p.1 hp1
    obtain ⟨r0, hr0, hf⟩ := Option.bind_eq_some_iff.mp hf
    exact mvRow_wf (threadOne_ok (S.wf r0 (List.mem_of_getElem? hr0)) hf).1
  · obtain ⟨c0, hc0, rfl⟩ := List.mem_map.mp hc'
    rw [edgesOf_mv] at hg
    obtain ⟨g0, hg0, rfl⟩ := List.mem_map.mp hg
    have hin := S.edge c0 hc0 g0 hg0
    rw [at_places (by rw [← hfl, h1]; exact hin), hl]
    have := cnt_le (keptT rs cs) g0.toNat
    exact ⟨this.1, by have := this.2; omega⟩

noncomputable def rounds : Nat → List Row → List Cl → Option (List Row × List Cl)
  | 0, code, cs => some (code, cs)
  | k + 1, code, cs => match threadRound code cs with
    | none => none
    | some p => if p.1.length < code.length then rounds k p.1 p.2 else some p
noncomputable def threadIn (code : List Row) (cs : List Cl) : Option (List Row × List Cl) := if cs.any (clBad code) then none else rounds turns code cs

theorem okSt_of {code : List Row} {cs : List Cl} (wf : ∀ r ∈ code, r.wf) (len : code.length ≤ 90) (clen : cs.length ≤ 90) (h : cs.any (clBad code) = false) : OkSt code cs := ⟨wf, len, clen, fun c hc g hg => by
  have := List.any_eq_false.mp h c hc
  simp only [clBad, Bool.or_eq_true, not_or, Bool.not_eq_true] at this
  have h2 := List.any_eq_false.mp this.2 g hg
  simp only [edgeBad, Bool.or_eq_true, not_or, decide_eq_true_eq] at h2
  exact ⟨by omega, by omega⟩⟩

section
variable (T : Tab) (φc φr : List PyData → Res PyData) (code : List Row) (cs : List Cl)
theorem sem_thread_in (hc : T.funs "check_edges" = some φc) (hr : T.funs "thread_round" = some φr) (hφc : φc [rws code, cls cs] = if cs.any (clBad code) then .exc else .ok .none) (hφr : ∀ code cs, OkSt code cs → φr [rws code, cls cs] = optP (threadRound code cs))
    (wf : ∀ r ∈ code, r.wf) (len : code.length ≤ 90) (clen : cs.length ≤ 90) : runDef T frz fuel F_thread_in.1.scope ["code", "clauses"] (bodyOf F_thread_in.1) [rws code, cls cs] = optP (threadIn code cs) := by
  refine run_outP rfl ?_
  simp only [F_thread_in, bodyOf, fuel, bindV_cons, bindV_nil, isGlob]
  unfold threadIn
  cases hB : cs.any (clBad code) with
  | true =>
    rw [hB] at hφc
    refine exs_exc (by exact (x_dropx rfl (v_call (set_ne rfl (set_ne rfl emp_eq)) rfl (c_fun hc rfl (s_cons (v_name set_eq) (s_cons (v_name (set_ne rfl set_eq)) s_nil)) hφc))))
  | false =>
    rw [hB] at hφc
    have S := okSt_of wf len clen hB
    refine exs_nxt (by exact (x_drop rfl (v_call (set_ne rfl (set_ne rfl emp_eq)) rfl (c_fun hc rfl (s_cons (v_name set_eq) (s_cons (v_name (set_ne rfl set_eq)) s_nil)) hφc)) rfl)) ?_
    refine exs_nxt (by exact (x_set rfl rfl rfl (v_bin (v_call (set_ne rfl (set_ne rfl emp_eq)) rfl (c_len rfl (b_name set_eq) u_lenr)) v_int rfl))) ?_
    simp only [Bool.false_eq_true, if_false]
    generalize hR : rounds turns code cs = R
    refine xwhile (fun k Γ => ∃ (code : List Row) (cs : List Cl) (count : Int), Γ "code" = some (rws code, false) ∧ Γ "clauses" = some (cls cs, false) ∧ Γ "count" = some (.int count, false) ∧ Γ "len" = none ∧ Γ "thread_round" = none ∧ OkSt code cs ∧
        (((code.length : Int) < count ∧ rounds k code cs = R ∧ code.length + 2 ≤ k) ∨ (¬ (code.length : Int) < count ∧ R = some (code, cs) ∧ 1 ≤ k))) (fun o' => o' = outP R ∨ ∃ Γ' p, R = some p ∧ o' = .nxt Γ' ∧ Γ' "code" = some (rws p.1, false) ∧ Γ' "clauses" = some (cls p.2, false)) rfl
      ⟨code, cs, code.length + 1, by exact (set_ne rfl set_eq), by exact (set_ne rfl (set_ne rfl set_eq)), by exact set_eq, by exact (set_ne rfl (set_ne rfl (set_ne rfl emp_eq))), by exact (set_ne rfl (set_ne rfl (set_ne rfl emp_eq))), S, .inl ⟨by omega, hR, by unfold turns; omega⟩⟩ (fun Γ h => ?_) (fun k Γ h => ?_) (fun o' h => ?_)
    · obtain ⟨_, _, _, _, _, _, _, _, _, h | h⟩ := h <;> omega
    · obtain ⟨code, cs, count, h1, h2, h3, h4, h5, S, ⟨h6, h7, h8⟩ | ⟨h6, h7, h8⟩⟩ := h
      · right
        have ht : decide ((code.length : Int) < count) = true := by simpa using h6
        refine ⟨by exact (t_cmp (v_call h4 rfl (c_len rfl (b_name h1) u_lenr)) (h_one (b_name h3) (m_lt ht))), ?_⟩
        have hφ := hφr code cs S
        unfold rounds at h7
        cases hT : threadRound code cs with
        | none =>
          rw [hT] at h7 hφ
          right; right
          refine ⟨exs_nxt (by exact (x_set rfl rfl rfl (v_call h4 rfl (c_len rfl (b_name h1) u_lenr)))) (exs_exc (by exact (x_twox rfl rfl (v_call (fr_none (set_ne rfl h5)) rfl (c_fun hr rfl (s_cons (v_name (fr_out rfl (set_ne rfl h1))) (s_cons (v_name (fr_out rfl (set_ne rfl h2))) s_nil)) hφ))))), ?_⟩
          rw [← h7]; exact .inl rfl
        | some p =>
          rw [hT] at h7 hφ
          obtain ⟨S', hle⟩ := S.next (code' := p.1) (cs' := p.2) hT
          left
          refine go_nxt (by exact (x_set rfl rfl rfl (v_call h4 rfl (c_len rfl (b_name h1) u_lenr)))) (go_nxt (by exact (x_two rfl rfl (v_call (set_ne rfl h5) rfl (c_fun hr rfl (s_cons (v_name (set_ne rfl h1)) (s_cons (v_name (set_ne rfl h2)) s_nil)) hφ)))) (go_nil ?_))
          refine ⟨p.1, p.2, code.length, by exact (set_ne rfl set_eq), by exact set_eq, by exact (set_ne rfl (set_ne rfl set_eq)), by exact (set_ne rfl (set_ne rfl (set_ne rfl h4))), by exact (set_ne rfl (set_ne rfl (set_ne rfl h5))), S', ?_⟩
          dsimp only at h7
          split at h7
          · rename_i q; exact .inl ⟨by omega, h7, by omega⟩
          · rename_i q; exact .inr ⟨by omega, h7.symm, by omega⟩
      · left
        have ht : decide ((code.length : Int) < count) = false := by simpa using h6
        exact ⟨by exact (t_cmp (v_call h4 rfl (c_len rfl (b_name h1) u_lenr)) (h_one (b_name h3) (m_lt ht))), .inr ⟨Γ, (code, cs), h7, rfl, h1, h2⟩⟩
    · rcases h with rfl | ⟨Γ', p, rfl, rfl, h1, h2⟩
      · cases R <;> rfl
      · exact exs_ret (by exact Eq.trans (x_ret rfl (v_tup (s_cons (v_name h1) (s_cons (v_name h2) s_nil)) rfl)) (by simp only [List.length_cons, List.length_nil, if_true, if_false, reduceIte, reduceCtorEq, Option.map_some, Option.map_none, Int.reduceLE, Int.reduceLT, Int.reduceToNat, List.getElem?_cons_zero, List.getElem?_cons_succ, cmp1i, cmp1in, Bool.false_eq_true, or_false, or_true, true_or, false_or, beq_self_eq_true, Nat.reduceAdd, decide_true, decide_false, binop_add, binop_sub, Bool.and_true, Bool.true_and, Bool.and_false, Bool.false_and, Bool.or_false, Bool.or_true, Bool.true_or, Bool.false_or, List.isEmpty_cons, List.isEmpty_nil, Bool.not_true, Bool.not_false, and_true, true_and, and_self, ne_eq, not_false_eq_true, List.length_map, cmpint, h1, h2, pairD]))
end
end
section
set_option maxRecDepth 100000
set_option linter.unusedVariables false
set_option linter.unusedSimpArgs false

noncomputable def goalL (t size : Int) : Int := if t.fmod 31 == 30 then size else if t.fmod 31 == 29 then -1 else (t.fdiv 2).fmod size
theorem bfd (a b : Int) (h : (decide (b ≠ 0) && small b) = true) : binop .FloorDiv (.int a) (.int b) = .ok (.int (a.fdiv b)) := by
  show Res.guard (decide (b ≠ 0) && small b) _ = _
  rw [h]; rfl
theorem bmod (a b : Int) (h : decide (b ≠ 0) = true) : binop .Mod (.int a) (.int b) = .ok (.int (a.fmod b)) := by
  show Res.guard (decide (b ≠ 0)) _ = _
  rw [h]; rfl
theorem bmul (a b : Int) (h : (fits a && fits b) = true) : binop .Mult (.int a) (.int b) = .ok (.int (a * b)) := by
  show Res.guard (fits a && fits b) _ = _
  rw [h]; rfl
theorem m31 (a : Int) : binop .Mod (.int a) (.int 31) = .ok (.int (a.fmod 31)) := bmod _ _ (by decide)
theorem m7 (a : Int) : binop .Mod (.int a) (.int 7) = .ok (.int (a.fmod 7)) := bmod _ _ (by decide)
theorem m9 (a : Int) : binop .Mod (.int a) (.int 9) = .ok (.int (a.fmod 9)) := bmod _ _ (by decide)
theorem m12 (a : Int) : binop .Mod (.int a) (.int 12) = .ok (.int (a.fmod 12)) := bmod _ _ (by decide)
theorem m5 (a : Int) : binop .Mod (.int a) (.int 5) = .ok (.int (a.fmod 5)) := bmod _ _ (by decide)
theorem m4 (a : Int) : binop .Mod (.int a) (.int 4) = .ok (.int (a.fmod 4)) := bmod _ _ (by decide)
theorem m3 (a : Int) : binop .Mod (.int a) (.int 3) = .ok (.int (a.fmod 3)) := bmod _ _ (by decide)
theorem m6 (a : Int) : binop .Mod (.int a) (.int 6) = .ok (.int (a.fmod 6)) := bmod _ _ (by decide)
theorem m23 (a : Int) : binop .Mod (.int a) (.int 23) = .ok (.int (a.fmod 23)) := bmod _ _ (by decide)
theorem m53 (a : Int) : binop .Mod (.int a) (.int 53) = .ok (.int (a.fmod 53)) := bmod _ _ (by decide)
theorem d2 (a : Int) : binop .FloorDiv (.int a) (.int 2) = .ok (.int (a.fdiv 2)) := bfd _ _ (by decide)
theorem d7 (a : Int) : binop .FloorDiv (.int a) (.int 7) = .ok (.int (a.fdiv 7)) := bfd _ _ (by decide)
theorem d12 (a : Int) : binop .FloorDiv (.int a) (.int 12) = .ok (.int (a.fdiv 12)) := bfd _ _ (by decide)
theorem d3 (a : Int) : binop .FloorDiv (.int a) (.int 3) = .ok (.int (a.fdiv 3)) := bfd _ _ (by decide)
theorem d4 (a : Int) : binop .FloorDiv (.int a) (.int 4) = .ok (.int (a.fdiv 4)) := bfd _ _ (by decide)
theorem d16 (a : Int) : binop .FloorDiv (.int a) (.int 16) = .ok (.int (a.fdiv 16)) := bfd _ _ (by decide)
theorem d22 (a : Int) : binop .FloorDiv (.int a) (.int 22) = .ok (.int (a.fdiv 22)) := bfd _ _ (by decide)
theorem d32 (a : Int) : binop .FloorDiv (.int a) (.int 32) = .ok (.int (a.fdiv 32)) := bfd _ _ (by decide)
theorem d64 (a : Int) : binop .FloorDiv (.int a) (.int 64) = .ok (.int (a.fdiv 64)) := bfd _ _ (by decide)
theorem d128 (a : Int) : binop .FloorDiv (.int a) (.int 128) = .ok (.int (a.fdiv 128)) := bfd _ _ (by decide)
theorem d300 (a : Int) : binop .FloorDiv (.int a) (.int 300) = .ok (.int (a.fdiv 300)) := bfd _ _ (by decide)

theorem sem_law_goal (T : Tab) (t size : Int) (hs : size ≠ 0) : runDef T frz fuel F_law_goal.1.scope ["t", "size"] (bodyOf F_law_goal.1) [.int t, .int size] = .ok (.int (goalL t size)) := by
  refine run_ret rfl ?_
  simp only [F_law_goal, bodyOf, fuel, bindV_cons, bindV_nil, isGlob]
  have hm := fun a => bmod a size (by simpa using hs)
  have hsz : decide (size ≠ 0) = true := by simpa using hs
  unfold goalL
  cases h1 : (t.fmod 31 == 30) with
  | true =>
    refine exs_ret (eif_t rfl (by exact (t_cmp (v_bin (v_name set_eq) v_int (md rfl rfl)) (h_one (b_else rfl v_int) (m_eq h1)))) (exs_ret ?_))
    exact Eq.trans (x_ret rfl (v_name (set_ne rfl set_eq))) (by simp only [List.length_cons, List.length_nil, if_true, if_false, reduceIte, reduceCtorEq, Option.map_some, Option.map_none, Int.reduceLE, Int.reduceLT, Int.reduceToNat, List.getElem?_cons_zero, List.getElem?_cons_succ, cmp1i, cmp1in, Bool.false_eq_true, or_false, or_true, true_or, false_or, beq_self_eq_true, Nat.reduceAdd, decide_true, decide_false, binop_add, binop_sub, Bool.and_true, Bool.true_and, Bool.and_false, Bool.false_and, Bool.or_false, Bool.or_true, Bool.true_or, Bool.false_or, List.isEmpty_cons, List.isEmpty_nil, Bool.not_true, Bool.not_false, and_true, true_and, and_self, ne_eq, not_false_eq_true, List.length_map, cmpint])
  | false =>
    refine exs_nxt (eif_f rfl (by exact (t_cmp (v_bin (v_name set_eq) v_int (md rfl rfl)) (h_one (b_else rfl v_int) (m_eq h1)))) exs_nil) (exs_ret ?_)
    cases h2 : (t.fmod 31 == 29) with
    | true => exact Eq.trans (x_ret rfl (v_if (t_cmp (v_bin (v_name set_eq) v_int (md rfl rfl)) (h_one (b_else rfl v_int) (m_eq h2))) (if_tt rfl (v_usub v_int)))) (by simp only [List.length_cons, List.length_nil, if_true, if_false, reduceIte, reduceCtorEq, Option.map_some, Option.map_none, Int.reduceLE, Int.reduceLT, Int.reduceToNat, List.getElem?_cons_zero, List.getElem?_cons_succ, cmp1i, cmp1in, Bool.false_eq_true, or_false, or_true, true_or, false_or, beq_self_eq_true, Nat.reduceAdd, decide_true, decide_false, binop_add, binop_sub, Bool.and_true, Bool.true_and, Bool.and_false, Bool.false_and, Bool.or_false, Bool.or_true, Bool.true_or, Bool.false_or, List.isEmpty_cons, List.isEmpty_nil, Bool.not_true, Bool.not_false, and_true, true_and, and_self, ne_eq, not_false_eq_true, List.length_map, cmpint, m31, h2])
    | false => exact (x_ret rfl (v_if (t_cmp (v_bin (v_name set_eq) v_int (md rfl rfl)) (h_one (b_else rfl v_int) (m_eq h2))) (if_ff rfl (v_bin (v_bin (v_name set_eq) v_int (fd rfl rfl)) (v_name (set_ne rfl set_eq)) (md hsz rfl)))))

theorem fmod_cases (a b : Int) (hb : 0 < b) : 0 ≤ a.fmod b ∧ a.fmod b < b := ⟨Int.fmod_nonneg_of_pos a hb, Int.fmod_lt_of_pos a hb⟩
end
section
set_option maxRecDepth 100000
set_option linter.unusedVariables false
set_option linter.unusedSimpArgs false

theorem only_app (Γ : Vars) (csc : Scope) (y : Str) : (Γ.only csc) y = if csc.names.lookup y = some .free then Γ y else none := rfl
section
variable {T : Tab} {n : Nat} {sc csc : Scope} {Γ : Vars} {x : Str} {p pos : Pos} {iter elt : Expr} {ifs : List Expr} {items ds : List PyData}
theorem evComp_ok (h1 : scopeOk csc = true) (h2 : freeOk sc Γ csc = true) (h3 : isLoc csc x = true ∧ (x == ("__debug__" : Str)) = false ∧ (x == ("__classdict__" : Str)) = false) (hi : evIter T n sc Γ iter = .ok items) (hl : items.length ≤ 1000)
    (hc : compL (fun Γ' => testOf ifs fun c => evT T n csc Γ' c) (fun Γ' => ev T n csc Γ' elt) x (Γ.only csc) items = .ok ds) : evComp T (n + 1) sc Γ elt [⟨.Name x p, iter, ifs, 0⟩] csc = .ok ds := by
  have hz : decide (items.length ≤ szMax) = true := decide_eq_true (by unfold szMax; omega)
  rw [evComp_eq, h1, h2, h3.1, h3.2.1, h3.2.2, hi]
  show Res.guard (decide (items.length ≤ szMax)) (noExc _) = _
  rw [hz, hc]; rfl
theorem ev_comp (h : evComp T n sc Γ elt [⟨.Name x p, iter, ifs, 0⟩] csc = .ok ds) : ev T (n + 1) sc Γ (.ListComp elt [⟨.Name x p, iter, ifs, 0⟩] csc pos) = .ok (.list ds) := by
  exact v_comp h
/-- a comprehension with no test: each item told -/
theorem compL_map {test : Vars → Res Bool} {elt : Vars → Res PyData} {x : Str} {Γ : Vars} (f : PyData → PyData) : ∀ items : List PyData, (∀ d ∈ items, test (Γ.set x d false) = .ok true ∧ elt (Γ.set x d false) = .ok (f d)) → compL test elt x Γ items = .ok (items.map f)
  | [], _ => rfl
  | d :: r, h => by
    obtain ⟨h1, h2⟩ := h d (by simp)
    simp only [compL, h1, h2, Res.bind_ok, if_true, compL_map f r fun d hd => h d (by simp [hd]), List.map_cons]
theorem compL_filter {test : Vars → Res Bool} {elt : Vars → Res PyData} {x : Str} {Γ : Vars} (P : PyData → Bool) (f : PyData → PyData) : ∀ items : List PyData, (∀ d ∈ items, test (Γ.set x d false) = .ok (P d) ∧ elt (Γ.set x d false) = .ok (f d)) → compL test elt x Γ items = .ok ((items.filter P).map f)
  | [], _ => rfl
  | d :: r, h => by
    obtain ⟨h1, h2⟩ := h d (by simp)
    have ih := compL_filter P f r fun d hd => h d (by simp [hd])
    cases hp : P d
    · simp only [compL, h1, hp, Res.bind_ok, Bool.false_eq_true, if_false, ih, List.filter_cons]
    · simp only [compL, h1, h2, hp, Res.bind_ok, if_true, ih, List.filter_cons, List.map_cons]
end

theorem evIter_rangeN {T : Tab} {n : Nat} {sc : Scope} {Γ : Vars} {a : Expr} {p pos : Pos} {k : Nat} (hk : k ≤ 1000) (hr : Γ "range" = none) (hg : isGlob sc "range" = true) (he : ev T n sc Γ a = .ok (.int k)) :
    evIter T (n + 1) sc Γ (.Call (.Name "range" p) [a] [] pos) = .ok (rangeD k) := (evIter_range hr hg he).trans (small_pass hk _)

theorem gF : (some NameKind.globalImplicit = some NameKind.free) = False := by simp
theorem lF : (some NameKind.local = some NameKind.free) = False := by simp
theorem cF : (some NameKind.cell = some NameKind.free) = False := by simp
theorem rg0 : Res.guard (small 0 && decide ((0 : Int) ≤ ((2000 : Nat) : Int))) (Res.ok (rangeD 0)) = .ok [] := rfl
theorem rg1 : Res.guard (small 1 && decide ((1 : Int) ≤ ((2000 : Nat) : Int))) (Res.ok (rangeD 1)) = .ok [.int 0] := rfl
theorem rg2 : Res.guard (small 2 && decide ((2 : Int) ≤ ((2000 : Nat) : Int))) (Res.ok (rangeD 2)) = .ok [.int 0, .int 1] := rfl
theorem rg3 : Res.guard (small 3 && decide ((3 : Int) ≤ ((2000 : Nat) : Int))) (Res.ok (rangeD 3)) = .ok [.int 0, .int 1, .int 2] := rfl
theorem u50 : binop .Mult (.int 5) (.int 0) = .ok (.int (5 * 0)) := rfl
theorem u51 : binop .Mult (.int 5) (.int 1) = .ok (.int (5 * 1)) := rfl
theorem u52 : binop .Mult (.int 5) (.int 2) = .ok (.int (5 * 2)) := rfl
theorem sem_law_row (T : Tab) {φg : List PyData → Res PyData} (hg : T.funs "_law_goal" = some φg) (v size : Int) (hφg : ∀ t, φg [.int t, .int size] = .ok (.int (goalL t size))) :
    ∃ r : Row, r.wf ∧ runDef T frz fuel F_law_row.1.scope ["v", "size"] (bodyOf F_law_row.1) [.int v, .int size] = .ok (row r) := by
  suffices H : ∃ r : Row, r.wf ∧ exs T frz 60 F_law_row.1.scope (bindV ["v", "size"] [.int v, .int size]) (bodyOf F_law_row.1) = .ret (row r) by
    obtain ⟨r, w, h⟩ := H
    exact ⟨r, w, run_ret rfl h⟩
  simp only [F_law_row, bodyOf, bindV_cons, bindV_nil]
  generalize ht : v.fdiv 7 = t
  obtain ⟨k0, k1⟩ := fmod_cases v 7 (by decide)
  generalize hk : v.fmod 7 = k at k0 k1
  have go : ∀ {st st' : Stmt} {r : List Stmt} {sc : Scope} {Γ Γ1 Γ2 : Vars} {P : Row → Prop}, ex T frz 59 sc Γ st = .nxt Γ1 → ex T frz 58 sc Γ1 st' = .nxt Γ2 → (∃ q : Row, P q ∧ exs T frz 58 sc Γ2 r = .ret (row q)) → ∃ q : Row, P q ∧ exs T frz 60 sc Γ (st :: st' :: r) = .ret (row q) :=
    fun h1 h2 ⟨q, w, e⟩ => ⟨q, w, exs_nxt h1 (exs_nxt h2 e)⟩
  refine go (by exact (x_set rfl rfl rfl (v_bin (v_name set_eq) v_int (md rfl hk)))) (by exact (x_set rfl rfl rfl (v_bin (v_name (set_ne rfl set_eq)) v_int (fd rfl ht)))) ?_
  have skip : ∀ {n : Nat} {st : Stmt} {r : List Stmt} {sc : Scope} {Γ : Vars} {P : Row → Prop}, ex T frz n sc Γ st = .nxt Γ → (∃ q : Row, P q ∧ exs T frz n sc Γ r = .ret (row q)) → ∃ q : Row, P q ∧ exs T frz (n + 1) sc Γ (st :: r) = .ret (row q) :=
    fun h1 ⟨q, w, e⟩ => ⟨q, w, exs_nxt h1 e⟩
  have stop : ∀ {n : Nat} {st : Stmt} {r : List Stmt} {sc : Scope} {Γ : Vars} (q : Row), q.wf → ex T frz n sc Γ st = .ret (row q) → ∃ q : Row, q.wf ∧ exs T frz (n + 1) sc Γ (st :: r) = .ret (row q) :=
    fun q w h1 => ⟨q, w, exs_ret h1⟩
  by_cases hlt : k < 2
  · have e1 : decide (k < 2) = true := by simpa using hlt
    exact stop (.pl 32 (t.fmod 9)) (by show (32 : Int) ≠ 69; decide) (eif_t rfl (by exact (t_cmp (v_name (set_ne rfl set_eq)) (h_one (b_else rfl v_int) (m_lt e1)))) (exs_ret (by exact Eq.trans (x_ret rfl (v_tup (s_cons v_int (s_cons (v_bin (v_name set_eq) v_int (md rfl rfl)) s_nil)) rfl)) (by simp only [List.length_cons, List.length_nil, if_true, if_false, reduceIte, reduceCtorEq, Option.map_some, Option.map_none, Int.reduceLE, Int.reduceLT, Int.reduceToNat, List.getElem?_cons_zero, List.getElem?_cons_succ, cmp1i, cmp1in, Bool.false_eq_true, or_false, or_true, true_or, false_or, beq_self_eq_true, Nat.reduceAdd, decide_true, decide_false, binop_add, binop_sub, Bool.and_true, Bool.true_and, Bool.and_false, Bool.false_and, Bool.or_false, Bool.or_true, Bool.true_or, Bool.false_or, List.isEmpty_cons, List.isEmpty_nil, Bool.not_true, Bool.not_false, and_true, true_and, and_self, ne_eq, not_false_eq_true, List.length_map, cmpint, m9, row]))))
  have e1 : decide (k < 2) = false := by simpa using hlt
  refine skip (eif_f rfl (by exact (t_cmp (v_name (set_ne rfl set_eq)) (h_one (b_else rfl v_int) (m_lt e1)))) exs_nil) ?_
  cases e2 : (k == 2) with
  | true => exact stop (.pl 56 (goalL t size)) (by show (56 : Int) ≠ 69; decide) (eif_t rfl (by exact (t_cmp (v_name (set_ne rfl set_eq)) (h_one (b_else rfl v_int) (m_eq e2)))) (exs_ret (by exact Eq.trans (x_ret rfl (v_tup (s_cons v_int (s_cons (v_call (set_ne rfl (set_ne rfl (set_ne rfl (set_ne rfl emp_eq)))) rfl (c_fun hg rfl (s_cons (v_name set_eq) (s_cons (v_name (set_ne rfl (set_ne rfl (set_ne rfl set_eq)))) s_nil)) (hφg _))) s_nil)) rfl)) (by simp only [List.length_cons, List.length_nil, if_true, if_false, reduceIte, reduceCtorEq, Option.map_some, Option.map_none, Int.reduceLE, Int.reduceLT, Int.reduceToNat, List.getElem?_cons_zero, List.getElem?_cons_succ, cmp1i, cmp1in, Bool.false_eq_true, or_false, or_true, true_or, false_or, beq_self_eq_true, Nat.reduceAdd, decide_true, decide_false, binop_add, binop_sub, Bool.and_true, Bool.true_and, Bool.and_false, Bool.false_and, Bool.or_false, Bool.or_true, Bool.true_or, Bool.false_or, List.isEmpty_cons, List.isEmpty_nil, Bool.not_true, Bool.not_false, and_true, true_and, and_self, ne_eq, not_false_eq_true, List.length_map, cmpint, hg, hφg, row]))))
  | false =>
  refine skip (eif_f rfl (by exact (t_cmp (v_name (set_ne rfl set_eq)) (h_one (b_else rfl v_int) (m_eq e2)))) exs_nil) ?_
  cases e3 : (k == 3) with
  | true =>
    obtain ⟨b0, b1⟩ := fmod_cases t 12 (by decide)
    exact stop (.pl (57 + t.fmod 12) (goalL (t.fdiv 12) size)) (by show (57 + t.fmod 12 : Int) ≠ 69; omega) (eif_t rfl (by exact (t_cmp (v_name (set_ne rfl set_eq)) (h_one (b_else rfl v_int) (m_eq e3)))) (exs_ret (by exact Eq.trans (x_ret rfl (v_tup (s_cons (v_bin v_int (v_bin (v_name set_eq) v_int (md rfl rfl)) rfl) (s_cons (v_call (set_ne rfl (set_ne rfl (set_ne rfl (set_ne rfl emp_eq)))) rfl (c_fun hg rfl (s_cons (v_bin (v_name set_eq) v_int (fd rfl rfl)) (s_cons (v_name (set_ne rfl (set_ne rfl (set_ne rfl set_eq)))) s_nil)) (hφg _))) s_nil)) rfl)) (by simp only [List.length_cons, List.length_nil, if_true, if_false, reduceIte, reduceCtorEq, Option.map_some, Option.map_none, Int.reduceLE, Int.reduceLT, Int.reduceToNat, List.getElem?_cons_zero, List.getElem?_cons_succ, cmp1i, cmp1in, Bool.false_eq_true, or_false, or_true, true_or, false_or, beq_self_eq_true, Nat.reduceAdd, decide_true, decide_false, binop_add, binop_sub, Bool.and_true, Bool.true_and, Bool.and_false, Bool.false_and, Bool.or_false, Bool.or_true, Bool.true_or, Bool.false_or, List.isEmpty_cons, List.isEmpty_nil, Bool.not_true, Bool.not_false, and_true, true_and, and_self, ne_eq, not_false_eq_true, List.length_map, cmpint, hg, hφg, row, m12, d12]))))
  | false =>
  refine skip (eif_f rfl (by exact (t_cmp (v_name (set_ne rfl set_eq)) (h_one (b_else rfl v_int) (m_eq e3)))) exs_nil) ?_
  cases e4 : (k == 4) with
  | true =>
    obtain ⟨b0, b1⟩ := fmod_cases t 4 (by decide)
    have h4 : t.fmod 4 = 0 ∨ t.fmod 4 = 1 ∨ t.fmod 4 = 2 ∨ t.fmod 4 = 3 := by omega
    rcases h4 with h4 | h4 | h4 | h4
    · refine stop (.sw []) (by show _ ≤ 90; simp) (eif_t rfl (by exact (t_cmp (v_name (set_ne rfl set_eq)) (h_one (b_else rfl v_int) (m_eq e4)))) (exs_ret ?_))
      show _ = Out.ret (.tuple [.int 69, .tuple (il [])])
      refine (x_ret rfl (v_tup (s_cons v_int (s_cons (v_call (set_ne rfl (set_ne rfl (set_ne rfl (set_ne rfl emp_eq)))) rfl (c_tuple rfl (b_else rfl (v_comp ?_)) u_tup)) s_nil)) rfl))
      exact evComp_ok (items := []) (ds := il []) rfl rfl ⟨rfl, rfl, rfl⟩ (by exact Eq.trans (i_rngI (set_ne rfl (set_ne rfl (set_ne rfl (set_ne rfl emp_eq)))) rfl (v_bin (v_name set_eq) v_int (md rfl h4))) rfl) (by simp) (by exact Eq.trans l_nil (by simp only [List.length_cons, List.length_nil, if_true, if_false, reduceIte, reduceCtorEq, Option.map_some, Option.map_none, Int.reduceLE, Int.reduceLT, Int.reduceToNat, List.getElem?_cons_zero, List.getElem?_cons_succ, cmp1i, cmp1in, Bool.false_eq_true, or_false, or_true, true_or, false_or, beq_self_eq_true, Nat.reduceAdd, decide_true, decide_false, binop_add, binop_sub, Bool.and_true, Bool.true_and, Bool.and_false, Bool.false_and, Bool.or_false, Bool.or_true, Bool.true_or, Bool.false_or, List.isEmpty_cons, List.isEmpty_nil, Bool.not_true, Bool.not_false, and_true, true_and, and_self, ne_eq, not_false_eq_true, List.length_map, cmpint, gF, lF, cF, compL, testOf, only_app, hg, hφg, d4, u50, u51, u52, il, List.map_cons, List.map_nil]))
    · refine stop (.sw [goalL (t.fdiv 4 + 5 * 0) size]) (by show _ ≤ 90; simp) (eif_t rfl (by exact (t_cmp (v_name (set_ne rfl set_eq)) (h_one (b_else rfl v_int) (m_eq e4)))) (exs_ret ?_))
      show _ = Out.ret (.tuple [.int 69, .tuple (il [goalL (t.fdiv 4 + 5 * 0) size])])
      refine (x_ret rfl (v_tup (s_cons v_int (s_cons (v_call (set_ne rfl (set_ne rfl (set_ne rfl (set_ne rfl emp_eq)))) rfl (c_tuple rfl (b_else rfl (v_comp ?_)) u_tup)) s_nil)) rfl))
      exact evComp_ok (items := [.int 0]) (ds := il [goalL (t.fdiv 4 + 5 * 0) size]) rfl rfl ⟨rfl, rfl, rfl⟩ (by exact Eq.trans (i_rngI (set_ne rfl (set_ne rfl (set_ne rfl (set_ne rfl emp_eq)))) rfl (v_bin (v_name set_eq) v_int (md rfl h4))) rfl) (by simp) (by exact Eq.trans (l_cons rfl (v_call (set_ne rfl (on_out rfl)) rfl (c_fun hg rfl (s_cons (v_bin (v_bin (v_name (set_ne rfl (on_in rfl set_eq))) v_int (fd rfl rfl)) (v_bin v_int (v_name set_eq) rfl) rfl) (s_cons (v_name (set_ne rfl (on_in rfl (set_ne rfl (set_ne rfl (set_ne rfl set_eq)))))) s_nil)) (hφg _))) l_nil) (by simp only [List.length_cons, List.length_nil, if_true, if_false, reduceIte, reduceCtorEq, Option.map_some, Option.map_none, Int.reduceLE, Int.reduceLT, Int.reduceToNat, List.getElem?_cons_zero, List.getElem?_cons_succ, cmp1i, cmp1in, Bool.false_eq_true, or_false, or_true, true_or, false_or, beq_self_eq_true, Nat.reduceAdd, decide_true, decide_false, binop_add, binop_sub, Bool.and_true, Bool.true_and, Bool.and_false, Bool.false_and, Bool.or_false, Bool.or_true, Bool.true_or, Bool.false_or, List.isEmpty_cons, List.isEmpty_nil, Bool.not_true, Bool.not_false, and_true, true_and, and_self, ne_eq, not_false_eq_true, List.length_map, cmpint, gF, lF, cF, compL, testOf, only_app, hg, hφg, d4, u50, u51, u52, il, List.map_cons, List.map_nil]))
    · refine stop (.sw [goalL (t.fdiv 4 + 5 * 0) size, goalL (t.fdiv 4 + 5 * 1) size]) (by show _ ≤ 90; simp) (eif_t rfl (by exact (t_cmp (v_name (set_ne rfl set_eq)) (h_one (b_else rfl v_int) (m_eq e4)))) (exs_ret ?_))
      show _ = Out.ret (.tuple [.int 69, .tuple (il [goalL (t.fdiv 4 + 5 * 0) size, goalL (t.fdiv 4 + 5 * 1) size])])
      refine (x_ret rfl (v_tup (s_cons v_int (s_cons (v_call (set_ne rfl (set_ne rfl (set_ne rfl (set_ne rfl emp_eq)))) rfl (c_tuple rfl (b_else rfl (v_comp ?_)) u_tup)) s_nil)) rfl))
      exact evComp_ok (items := [.int 0, .int 1]) (ds := il [goalL (t.fdiv 4 + 5 * 0) size, goalL (t.fdiv 4 + 5 * 1) size]) rfl rfl ⟨rfl, rfl, rfl⟩ (by exact Eq.trans (i_rngI (set_ne rfl (set_ne rfl (set_ne rfl (set_ne rfl emp_eq)))) rfl (v_bin (v_name set_eq) v_int (md rfl h4))) rfl) (by simp) (by exact Eq.trans (l_cons rfl (v_call (set_ne rfl (on_out rfl)) rfl (c_fun hg rfl (s_cons (v_bin (v_bin (v_name (set_ne rfl (on_in rfl set_eq))) v_int (fd rfl rfl)) (v_bin v_int (v_name set_eq) rfl) rfl) (s_cons (v_name (set_ne rfl (on_in rfl (set_ne rfl (set_ne rfl (set_ne rfl set_eq)))))) s_nil)) (hφg _))) (l_cons rfl (v_call (set_ne rfl (on_out rfl)) rfl (c_fun hg rfl (s_cons (v_bin (v_bin (v_name (set_ne rfl (on_in rfl set_eq))) v_int (fd rfl rfl)) (v_bin v_int (v_name set_eq) rfl) rfl) (s_cons (v_name (set_ne rfl (on_in rfl (set_ne rfl (set_ne rfl (set_ne rfl set_eq)))))) s_nil)) (hφg _))) l_nil)) (by simp only [List.length_cons, List.length_nil, if_true, if_false, reduceIte, reduceCtorEq, Option.map_some, Option.map_none, Int.reduceLE, Int.reduceLT, Int.reduceToNat, List.getElem?_cons_zero, List.getElem?_cons_succ, cmp1i, cmp1in, Bool.false_eq_true, or_false, or_true, true_or, false_or, beq_self_eq_true, Nat.reduceAdd, decide_true, decide_false, binop_add, binop_sub, Bool.and_true, Bool.true_and, Bool.and_false, Bool.false_and, Bool.or_false, Bool.or_true, Bool.true_or, Bool.false_or, List.isEmpty_cons, List.isEmpty_nil, Bool.not_true, Bool.not_false, and_true, true_and, and_self, ne_eq, not_false_eq_true, List.length_map, cmpint, gF, lF, cF, compL, testOf, only_app, hg, hφg, d4, u50, u51, u52, il, List.map_cons, List.map_nil]))
    · refine stop (.sw [goalL (t.fdiv 4 + 5 * 0) size, goalL (t.fdiv 4 + 5 * 1) size, goalL (t.fdiv 4 + 5 * 2) size]) (by show _ ≤ 90; simp) (eif_t rfl (by exact (t_cmp (v_name (set_ne rfl set_eq)) (h_one (b_else rfl v_int) (m_eq e4)))) (exs_ret ?_))
      show _ = Out.ret (.tuple [.int 69, .tuple (il [goalL (t.fdiv 4 + 5 * 0) size, goalL (t.fdiv 4 + 5 * 1) size, goalL (t.fdiv 4 + 5 * 2) size])])
      refine (x_ret rfl (v_tup (s_cons v_int (s_cons (v_call (set_ne rfl (set_ne rfl (set_ne rfl (set_ne rfl emp_eq)))) rfl (c_tuple rfl (b_else rfl (v_comp ?_)) u_tup)) s_nil)) rfl))
      exact evComp_ok (items := [.int 0, .int 1, .int 2]) (ds := il [goalL (t.fdiv 4 + 5 * 0) size, goalL (t.fdiv 4 + 5 * 1) size, goalL (t.fdiv 4 + 5 * 2) size]) rfl rfl ⟨rfl, rfl, rfl⟩ (by exact Eq.trans (i_rngI (set_ne rfl (set_ne rfl (set_ne rfl (set_ne rfl emp_eq)))) rfl (v_bin (v_name set_eq) v_int (md rfl h4))) rfl) (by simp) (by exact Eq.trans (l_cons rfl (v_call (set_ne rfl (on_out rfl)) rfl (c_fun hg rfl (s_cons (v_bin (v_bin (v_name (set_ne rfl (on_in rfl set_eq))) v_int (fd rfl rfl)) (v_bin v_int (v_name set_eq) rfl) rfl) (s_cons (v_name (set_ne rfl (on_in rfl (set_ne rfl (set_ne rfl (set_ne rfl set_eq)))))) s_nil)) (hφg _))) (l_cons rfl (v_call (set_ne rfl (on_out rfl)) rfl (c_fun hg rfl (s_cons (v_bin (v_bin (v_name (set_ne rfl (on_in rfl set_eq))) v_int (fd rfl rfl)) (v_bin v_int (v_name set_eq) rfl) rfl) (s_cons (v_name (set_ne rfl (on_in rfl (set_ne rfl (set_ne rfl (set_ne rfl set_eq)))))) s_nil)) (hφg _))) (l_cons rfl (v_call (set_ne rfl (on_out rfl)) rfl (c_fun hg rfl (s_cons (v_bin (v_bin (v_name (set_ne rfl (on_in rfl set_eq))) v_int (fd rfl rfl)) (v_bin v_int (v_name set_eq) rfl) rfl) (s_cons (v_name (set_ne rfl (on_in rfl (set_ne rfl (set_ne rfl (set_ne rfl set_eq)))))) s_nil)) (hφg _))) l_nil))) (by simp only [List.length_cons, List.length_nil, if_true, if_false, reduceIte, reduceCtorEq, Option.map_some, Option.map_none, Int.reduceLE, Int.reduceLT, Int.reduceToNat, List.getElem?_cons_zero, List.getElem?_cons_succ, cmp1i, cmp1in, Bool.false_eq_true, or_false, or_true, true_or, false_or, beq_self_eq_true, Nat.reduceAdd, decide_true, decide_false, binop_add, binop_sub, Bool.and_true, Bool.true_and, Bool.and_false, Bool.false_and, Bool.or_false, Bool.or_true, Bool.true_or, Bool.false_or, List.isEmpty_cons, List.isEmpty_nil, Bool.not_true, Bool.not_false, and_true, true_and, and_self, ne_eq, not_false_eq_true, List.length_map, cmpint, gF, lF, cF, compL, testOf, only_app, hg, hφg, d4, u50, u51, u52, il, List.map_cons, List.map_nil]))
  | false =>
  refine skip (eif_f rfl (by exact (t_cmp (v_name (set_ne rfl set_eq)) (h_one (b_else rfl v_int) (m_eq e4)))) exs_nil) ?_
  cases e5 : (k == 5) with
  | true =>
    obtain ⟨b0, b1⟩ := fmod_cases t 5 (by decide)
    have h5 : t.fmod 5 = 0 ∨ t.fmod 5 = 1 ∨ t.fmod 5 = 2 ∨ t.fmod 5 = 3 ∨ t.fmod 5 = 4 := by omega
    rcases h5 with h5 | h5 | h5 | h5 | h5
    · exact stop (.pl 42 0) (by show (42 : Int) ≠ 69; decide) (eif_t rfl (by exact (t_cmp (v_name (set_ne rfl set_eq)) (h_one (b_else rfl v_int) (m_eq e5)))) (exs_ret (by exact Eq.trans (x_ret rfl (v_tup (s_cons (v_sub rfl (b_else rfl (v_tup (s_cons v_int (s_cons v_int (s_cons v_int (s_cons v_int (s_cons v_int s_nil))))) rfl)) (v_bin (v_name set_eq) v_int (md rfl h5)) rfl) (s_cons v_int s_nil)) rfl)) (by simp only [List.length_cons, List.length_nil, if_true, if_false, reduceIte, reduceCtorEq, Option.map_some, Option.map_none, Int.reduceLE, Int.reduceLT, Int.reduceToNat, List.getElem?_cons_zero, List.getElem?_cons_succ, cmp1i, cmp1in, Bool.false_eq_true, or_false, or_true, true_or, false_or, beq_self_eq_true, Nat.reduceAdd, decide_true, decide_false, binop_add, binop_sub, Bool.and_true, Bool.true_and, Bool.and_false, Bool.false_and, Bool.or_false, Bool.or_true, Bool.true_or, Bool.false_or, List.isEmpty_cons, List.isEmpty_nil, Bool.not_true, Bool.not_false, and_true, true_and, and_self, ne_eq, not_false_eq_true, List.length_map, cmpint, m5, h5, row]))))
    · exact stop (.pl 122 0) (by show (122 : Int) ≠ 69; decide) (eif_t rfl (by exact (t_cmp (v_name (set_ne rfl set_eq)) (h_one (b_else rfl v_int) (m_eq e5)))) (exs_ret (by exact Eq.trans (x_ret rfl (v_tup (s_cons (v_sub rfl (b_else rfl (v_tup (s_cons v_int (s_cons v_int (s_cons v_int (s_cons v_int (s_cons v_int s_nil))))) rfl)) (v_bin (v_name set_eq) v_int (md rfl h5)) rfl) (s_cons v_int s_nil)) rfl)) (by simp only [List.length_cons, List.length_nil, if_true, if_false, reduceIte, reduceCtorEq, Option.map_some, Option.map_none, Int.reduceLE, Int.reduceLT, Int.reduceToNat, List.getElem?_cons_zero, List.getElem?_cons_succ, cmp1i, cmp1in, Bool.false_eq_true, or_false, or_true, true_or, false_or, beq_self_eq_true, Nat.reduceAdd, decide_true, decide_false, binop_add, binop_sub, Bool.and_true, Bool.true_and, Bool.and_false, Bool.false_and, Bool.or_false, Bool.or_true, Bool.true_or, Bool.false_or, List.isEmpty_cons, List.isEmpty_nil, Bool.not_true, Bool.not_false, and_true, true_and, and_self, ne_eq, not_false_eq_true, List.length_map, cmpint, m5, h5, row]))))
    · exact stop (.pl 220 0) (by show (220 : Int) ≠ 69; decide) (eif_t rfl (by exact (t_cmp (v_name (set_ne rfl set_eq)) (h_one (b_else rfl v_int) (m_eq e5)))) (exs_ret (by exact Eq.trans (x_ret rfl (v_tup (s_cons (v_sub rfl (b_else rfl (v_tup (s_cons v_int (s_cons v_int (s_cons v_int (s_cons v_int (s_cons v_int s_nil))))) rfl)) (v_bin (v_name set_eq) v_int (md rfl h5)) rfl) (s_cons v_int s_nil)) rfl)) (by simp only [List.length_cons, List.length_nil, if_true, if_false, reduceIte, reduceCtorEq, Option.map_some, Option.map_none, Int.reduceLE, Int.reduceLT, Int.reduceToNat, List.getElem?_cons_zero, List.getElem?_cons_succ, cmp1i, cmp1in, Bool.false_eq_true, or_false, or_true, true_or, false_or, beq_self_eq_true, Nat.reduceAdd, decide_true, decide_false, binop_add, binop_sub, Bool.and_true, Bool.true_and, Bool.and_false, Bool.false_and, Bool.or_false, Bool.or_true, Bool.true_or, Bool.false_or, List.isEmpty_cons, List.isEmpty_nil, Bool.not_true, Bool.not_false, and_true, true_and, and_self, ne_eq, not_false_eq_true, List.length_map, cmpint, m5, h5, row]))))
    · exact stop (.pl 65041 0) (by show (65041 : Int) ≠ 69; decide) (eif_t rfl (by exact (t_cmp (v_name (set_ne rfl set_eq)) (h_one (b_else rfl v_int) (m_eq e5)))) (exs_ret (by exact Eq.trans (x_ret rfl (v_tup (s_cons (v_sub rfl (b_else rfl (v_tup (s_cons v_int (s_cons v_int (s_cons v_int (s_cons v_int (s_cons v_int s_nil))))) rfl)) (v_bin (v_name set_eq) v_int (md rfl h5)) rfl) (s_cons v_int s_nil)) rfl)) (by simp only [List.length_cons, List.length_nil, if_true, if_false, reduceIte, reduceCtorEq, Option.map_some, Option.map_none, Int.reduceLE, Int.reduceLT, Int.reduceToNat, List.getElem?_cons_zero, List.getElem?_cons_succ, cmp1i, cmp1in, Bool.false_eq_true, or_false, or_true, true_or, false_or, beq_self_eq_true, Nat.reduceAdd, decide_true, decide_false, binop_add, binop_sub, Bool.and_true, Bool.true_and, Bool.and_false, Bool.false_and, Bool.or_false, Bool.or_true, Bool.true_or, Bool.false_or, List.isEmpty_cons, List.isEmpty_nil, Bool.not_true, Bool.not_false, and_true, true_and, and_self, ne_eq, not_false_eq_true, List.length_map, cmpint, m5, h5, row]))))
    · exact stop (.pl 65050 0) (by show (65050 : Int) ≠ 69; decide) (eif_t rfl (by exact (t_cmp (v_name (set_ne rfl set_eq)) (h_one (b_else rfl v_int) (m_eq e5)))) (exs_ret (by exact Eq.trans (x_ret rfl (v_tup (s_cons (v_sub rfl (b_else rfl (v_tup (s_cons v_int (s_cons v_int (s_cons v_int (s_cons v_int (s_cons v_int s_nil))))) rfl)) (v_bin (v_name set_eq) v_int (md rfl h5)) rfl) (s_cons v_int s_nil)) rfl)) (by simp only [List.length_cons, List.length_nil, if_true, if_false, reduceIte, reduceCtorEq, Option.map_some, Option.map_none, Int.reduceLE, Int.reduceLT, Int.reduceToNat, List.getElem?_cons_zero, List.getElem?_cons_succ, cmp1i, cmp1in, Bool.false_eq_true, or_false, or_true, true_or, false_or, beq_self_eq_true, Nat.reduceAdd, decide_true, decide_false, binop_add, binop_sub, Bool.and_true, Bool.true_and, Bool.and_false, Bool.false_and, Bool.or_false, Bool.or_true, Bool.true_or, Bool.false_or, List.isEmpty_cons, List.isEmpty_nil, Bool.not_true, Bool.not_false, and_true, true_and, and_self, ne_eq, not_false_eq_true, List.length_map, cmpint, m5, h5, row]))))
  | false =>
  refine skip (eif_f rfl (by exact (t_cmp (v_name (set_ne rfl set_eq)) (h_one (b_else rfl v_int) (m_eq e5)))) exs_nil) ?_
  cases e6 : (t.fmod 3 != 0) with
  | true =>
    have e7 : (t.fmod 3 == 0) = false := by simpa using e6
    exact stop (.pl 221 (goalL (t.fdiv 3) size)) (by show (221 : Int) ≠ 69; decide) (eif_t rfl (by exact Eq.trans (t_else rfl (v_bin (v_name set_eq) v_int (md rfl rfl)) (r_int e7)) (by simp only [List.length_cons, List.length_nil, if_true, if_false, reduceIte, reduceCtorEq, Option.map_some, Option.map_none, Int.reduceLE, Int.reduceLT, Int.reduceToNat, List.getElem?_cons_zero, List.getElem?_cons_succ, cmp1i, cmp1in, Bool.false_eq_true, or_false, or_true, true_or, false_or, beq_self_eq_true, Nat.reduceAdd, decide_true, decide_false, binop_add, binop_sub, Bool.and_true, Bool.true_and, Bool.and_false, Bool.false_and, Bool.or_false, Bool.or_true, Bool.true_or, Bool.false_or, List.isEmpty_cons, List.isEmpty_nil, Bool.not_true, Bool.not_false, and_true, true_and, and_self, ne_eq, not_false_eq_true, List.length_map, cmpint, m3, e6])) (exs_ret (by exact Eq.trans (x_ret rfl (v_tup (s_cons v_int (s_cons (v_call (set_ne rfl (set_ne rfl (set_ne rfl (set_ne rfl emp_eq)))) rfl (c_fun hg rfl (s_cons (v_bin (v_name set_eq) v_int (fd rfl rfl)) (s_cons (v_name (set_ne rfl (set_ne rfl (set_ne rfl set_eq)))) s_nil)) (hφg _))) s_nil)) rfl)) (by simp only [List.length_cons, List.length_nil, if_true, if_false, reduceIte, reduceCtorEq, Option.map_some, Option.map_none, Int.reduceLE, Int.reduceLT, Int.reduceToNat, List.getElem?_cons_zero, List.getElem?_cons_succ, cmp1i, cmp1in, Bool.false_eq_true, or_false, or_true, true_or, false_or, beq_self_eq_true, Nat.reduceAdd, decide_true, decide_false, binop_add, binop_sub, Bool.and_true, Bool.true_and, Bool.and_false, Bool.false_and, Bool.or_false, Bool.or_true, Bool.true_or, Bool.false_or, List.isEmpty_cons, List.isEmpty_nil, Bool.not_true, Bool.not_false, and_true, true_and, and_self, ne_eq, not_false_eq_true, List.length_map, cmpint, hg, hφg, row, d3]))))
  | false =>
  have e7 : (t.fmod 3 == 0) = true := by simpa using e6
  refine skip (eif_f rfl (by exact Eq.trans (t_else rfl (v_bin (v_name set_eq) v_int (md rfl rfl)) (r_int e7)) (by simp only [List.length_cons, List.length_nil, if_true, if_false, reduceIte, reduceCtorEq, Option.map_some, Option.map_none, Int.reduceLE, Int.reduceLT, Int.reduceToNat, List.getElem?_cons_zero, List.getElem?_cons_succ, cmp1i, cmp1in, Bool.false_eq_true, or_false, or_true, true_or, false_or, beq_self_eq_true, Nat.reduceAdd, decide_true, decide_false, binop_add, binop_sub, Bool.and_true, Bool.true_and, Bool.and_false, Bool.false_and, Bool.or_false, Bool.or_true, Bool.true_or, Bool.false_or, List.isEmpty_cons, List.isEmpty_nil, Bool.not_true, Bool.not_false, and_true, true_and, and_self, ne_eq, not_false_eq_true, List.length_map, cmpint, m3, e6])) exs_nil) ?_
  obtain ⟨b0, b1⟩ := fmod_cases (t.fdiv 3) 3 (by decide)
  have h3 : (t.fdiv 3).fmod 3 = 0 ∨ (t.fdiv 3).fmod 3 = 1 ∨ (t.fdiv 3).fmod 3 = 2 := by omega
  rcases h3 with h3 | h3 | h3
  · exact stop (.pl 0 0) (by show (0 : Int) ≠ 69; decide) (by exact (x_ret rfl (v_sub rfl (b_else rfl (v_tup (s_cons (v_tup (s_cons v_int (s_cons v_int s_nil)) rfl) (s_cons (v_tup (s_cons v_int (s_cons v_int s_nil)) rfl) (s_cons (v_tup (s_cons v_int (s_cons v_int s_nil)) rfl) s_nil))) rfl)) (v_bin (v_bin (v_name set_eq) v_int (fd rfl rfl)) v_int (md rfl h3)) rfl)))
  · exact stop (.pl 65054 0) (by show (65054 : Int) ≠ 69; decide) (by exact (x_ret rfl (v_sub rfl (b_else rfl (v_tup (s_cons (v_tup (s_cons v_int (s_cons v_int s_nil)) rfl) (s_cons (v_tup (s_cons v_int (s_cons v_int s_nil)) rfl) (s_cons (v_tup (s_cons v_int (s_cons v_int s_nil)) rfl) s_nil))) rfl)) (v_bin (v_bin (v_name set_eq) v_int (fd rfl rfl)) v_int (md rfl h3)) rfl)))
  · exact stop (.pl 65046 7) (by show (65046 : Int) ≠ 69; decide) (by exact (x_ret rfl (v_sub rfl (b_else rfl (v_tup (s_cons (v_tup (s_cons v_int (s_cons v_int s_nil)) rfl) (s_cons (v_tup (s_cons v_int (s_cons v_int s_nil)) rfl) (s_cons (v_tup (s_cons v_int (s_cons v_int s_nil)) rfl) s_nil))) rfl)) (v_bin (v_bin (v_name set_eq) v_int (fd rfl rfl)) v_int (md rfl h3)) rfl)))
end
section
set_option maxRecDepth 100000
set_option linter.unusedVariables false
set_option linter.unusedSimpArgs false

noncomputable def goalsL (r : Row) : List Int := match r with
  | .sw ts => ts
  | .pl op n => if isBr op then [n] else []
theorem goalsL_eq (r : Row) : goalsL r = goalsR r := by cases r <;> rfl

theorem sem_law_goals (T : Tab) (r : Row) (wf : r.wf) : runDef T frz fuel F_law_goals.1.scope ["row"] (bodyOf F_law_goals.1) [row r] = .ok (.list (il (goalsR r))) := by
  refine run_ret rfl ?_
  simp only [F_law_goals, bodyOf, fuel, bindV_cons, bindV_nil, isGlob]
  have i0 := idx_row0 r
  cases r with
  | sw ts =>
    have i1 : index (row (.sw ts)) (.int 1) = .ok (.tuple (il ts)) := rfl
    have e : ((Row.sw ts).op == 69) = true := rfl
    refine exs_ret (eif_t rfl (by exact (t_cmp (v_sub rfl (b_name set_eq) v_int i0) (h_one (b_else rfl v_int) (m_eq e)))) (exs_ret ?_))
    exact (x_ret rfl (v_call (set_ne rfl emp_eq) rfl (c_list rfl (i_else rfl (v_sub rfl (b_name set_eq) v_int i1) rfl))))
  | pl op n =>
    have i1 : index (row (.pl op n)) (.int 1) = .ok (.int n) := rfl
    have hop : ((Row.pl op n).op == 69) = false := by have q : op ≠ 69 := wf; simpa [Row.op] using q
    refine exs_nxt (eif_f rfl (by exact (t_cmp (v_sub rfl (b_name set_eq) v_int i0) (h_one (b_else rfl v_int) (m_eq hop)))) exs_nil) ?_
    have e0 : (Row.pl op n).op = op := rfl
    rw [e0] at i0
    cases a : decide (56 ≤ op) <;> cases b : decide (op < 69) <;> cases c : (op == 221)
    all_goals first
      | (have hb : isBr op = true := by unfold isBr; rw [a, b, c]; rfl
         refine exs_ret (eif_t rfl (by (first | exact (t_all (a_or (t_cmp v_int (h_two (v_sub rfl (b_name set_eq) v_int i0) (m_le a) (and_f rfl))) (or_f rfl (a_or (t_cmp (v_sub rfl (b_name set_eq) v_int i0) (h_one (b_else rfl v_int) (m_eq c))) (or_t rfl))))) | exact (t_all (a_or (t_cmp v_int (h_two (v_sub rfl (b_name set_eq) v_int i0) (m_le a) (and_t rfl (h_one (b_else rfl v_int) (m_lt b))))) (or_f rfl (a_or (t_cmp (v_sub rfl (b_name set_eq) v_int i0) (h_one (b_else rfl v_int) (m_eq c))) (or_t rfl))))) | exact (t_all (a_or (t_cmp v_int (h_two (v_sub rfl (b_name set_eq) v_int i0) (m_le a) (and_t rfl (h_one (b_else rfl v_int) (m_lt b))))) (or_t rfl))))) (exs_ret ?_))
         exact Eq.trans (x_ret rfl (v_list (s_cons (v_sub rfl (b_name set_eq) v_int i1) s_nil) rfl)) (by simp only [List.length_cons, List.length_nil, if_true, if_false, reduceIte, reduceCtorEq, Option.map_some, Option.map_none, Int.reduceLE, Int.reduceLT, Int.reduceToNat, List.getElem?_cons_zero, List.getElem?_cons_succ, cmp1i, cmp1in, Bool.false_eq_true, or_false, or_true, true_or, false_or, beq_self_eq_true, Nat.reduceAdd, decide_true, decide_false, binop_add, binop_sub, Bool.and_true, Bool.true_and, Bool.and_false, Bool.false_and, Bool.or_false, Bool.or_true, Bool.true_or, Bool.false_or, List.isEmpty_cons, List.isEmpty_nil, Bool.not_true, Bool.not_false, and_true, true_and, and_self, ne_eq, not_false_eq_true, List.length_map, cmpint, i1, goalsR, hb, il, List.map_cons, List.map_nil]))
      | (have hb : isBr op = false := by unfold isBr; rw [a, b, c]; rfl
         refine exs_nxt (eif_f rfl (by (first | exact (t_all (a_or (t_cmp v_int (h_two (v_sub rfl (b_name set_eq) v_int i0) (m_le a) (and_f rfl))) (or_f rfl (a_or (t_cmp (v_sub rfl (b_name set_eq) v_int i0) (h_one (b_else rfl v_int) (m_eq c))) (or_f rfl a_nilo))))) | exact (t_all (a_or (t_cmp v_int (h_two (v_sub rfl (b_name set_eq) v_int i0) (m_le a) (and_t rfl (h_one (b_else rfl v_int) (m_lt b))))) (or_f rfl (a_or (t_cmp (v_sub rfl (b_name set_eq) v_int i0) (h_one (b_else rfl v_int) (m_eq c))) (or_f rfl a_nilo))))))) exs_nil) (exs_ret ?_)
         exact Eq.trans (x_ret rfl (v_list s_nil rfl)) (by simp only [List.length_cons, List.length_nil, if_true, if_false, reduceIte, reduceCtorEq, Option.map_some, Option.map_none, Int.reduceLE, Int.reduceLT, Int.reduceToNat, List.getElem?_cons_zero, List.getElem?_cons_succ, cmp1i, cmp1in, Bool.false_eq_true, or_false, or_true, true_or, false_or, beq_self_eq_true, Nat.reduceAdd, decide_true, decide_false, binop_add, binop_sub, Bool.and_true, Bool.true_and, Bool.and_false, Bool.false_and, Bool.or_false, Bool.or_true, Bool.true_or, Bool.false_or, List.isEmpty_cons, List.isEmpty_nil, Bool.not_true, Bool.not_false, and_true, true_and, and_self, ne_eq, not_false_eq_true, List.length_map, cmpint, goalsR, hb, il, List.map_cons, List.map_nil]))

noncomputable def allEdges (cs : List Cl) : List Int := cs.flatMap edgesOf
theorem sem_law_edges (T : Tab) (cs : List Cl) (hm : cs.length ≤ 90) : runDef T frz fuel F_law_edges.1.scope ["clauses"] (bodyOf F_law_edges.1) [cls cs] = .ok (.list (il (allEdges cs))) := by
  have len : ∀ c, (edgesOf c).length ≤ 5 := fun c => by unfold edgesOf; split <;> simp
  have len2 : ∀ l : List Cl, (allEdges l).length ≤ 5 * l.length := fun l => by
    induction l with
    | nil => simp [allEdges]
    | cons c l ih => unfold allEdges at ih ⊢; rw [List.flatMap_cons, List.length_append, List.length_cons]; have := len c; omega
  refine run_ret rfl ?_
  simp only [F_law_edges, bodyOf, fuel, bindV_cons, bindV_nil, isGlob]
  refine exs_nxt (by exact (x_set0 rfl rfl)) ?_
  refine xfor (ds := cs.map cl) (fun k Γ => (∃ o, Γ "out" = some (.list (il (allEdges (cs.take k))), o)) ∧ Γ "list" = none) rfl rfl (by exact (o_name (set_ne rfl set_eq) rfl)) ⟨⟨true, by exact Eq.trans set_eq rfl⟩, by exact (set_ne rfl (set_ne rfl emp_eq))⟩ (fun k d Γ hk ⟨⟨o, h1⟩, h2⟩ => ?_) fun Γ' ⟨⟨o, h1⟩, h2⟩ => ?_
  · rw [List.getElem?_map] at hk
    obtain ⟨c, hc, rfl⟩ := Option.map_eq_some_iff.mp hk
    have hkl := getE hc
    have ht : allEdges (cs.take (k + 1)) = allEdges (cs.take k) ++ edgesOf c := by
      have : cs.take (k + 1) = cs.take k ++ [c] := by rw [List.take_add_one, hc]; rfl
      rw [this]; unfold allEdges; rw [List.flatMap_append]; simp
    have hb : binop .Add (.list (il (allEdges (cs.take k)))) (.list (il (edgesOf c))) = .ok (.list (il (allEdges (cs.take (k + 1))))) := by
      show Res.guard (decide ((il (allEdges (cs.take k))).length + (il (edgesOf c)).length ≤ szMax)) _ = _
      have h3 := len2 (cs.take k)
      have h4 := len c
      have h5 : (cs.take k).length ≤ 90 := by rw [List.length_take]; omega
      rw [decide_eq_true (by simp only [il, List.length_map]; unfold szMax; omega), ht]
      simp only [Res.guard_true, il, List.map_append]
    cases hs : (c.s == 1) with
    | true =>
      have he : edgesOf c = [c.a, c.b, c.c, c.d, c.e] := by unfold edgesOf; rw [hs]; rfl
      have hsl : slice (cl c) 1 6 = .ok (.tuple (il (edgesOf c))) := by rw [he]; rfl
      refine go_nxt (Γ' := (((Γ.set "clause" (cl c) false).freeze ["out"]).set "out" (.list (il (allEdges (cs.take (k + 1))))) false)) ?_ (go_nil ⟨⟨false, by exact set_eq⟩, by exact (set_ne rfl (fr_none (set_ne rfl h2)))⟩)
      have i0 : index (cl c) (.int 0) = .ok (.int c.s) := rfl
      exact (x_setz rfl rfl rfl (v_bin (v_name (fr_in rfl (set_ne rfl h1))) (v_call (fr_none (set_ne rfl h2)) rfl (c_list rfl (i_else rfl (v_if (t_cmp (v_sub rfl (b_name (fr_out rfl set_eq)) v_int i0) (h_one (b_else rfl v_int) (m_eq hs))) (if_tt rfl (v_slc (b_name (fr_out rfl set_eq)) hsl))) rfl))) hb))
    | false =>
      have he : edgesOf c = [c.a, c.b, c.c, c.d] := by unfold edgesOf; rw [hs]; rfl
      have hsl : slice (cl c) 1 5 = .ok (.tuple (il (edgesOf c))) := by rw [he]; rfl
      refine go_nxt (Γ' := (((Γ.set "clause" (cl c) false).freeze ["out"]).set "out" (.list (il (allEdges (cs.take (k + 1))))) false)) ?_ (go_nil ⟨⟨false, by exact set_eq⟩, by exact (set_ne rfl (fr_none (set_ne rfl h2)))⟩)
      have i0 : index (cl c) (.int 0) = .ok (.int c.s) := rfl
      exact (x_setz rfl rfl rfl (v_bin (v_name (fr_in rfl (set_ne rfl h1))) (v_call (fr_none (set_ne rfl h2)) rfl (c_list rfl (i_else rfl (v_if (t_cmp (v_sub rfl (b_name (fr_out rfl set_eq)) v_int i0) (h_one (b_else rfl v_int) (m_eq hs))) (if_ff rfl (v_slc (b_name (fr_out rfl set_eq)) hsl))) rfl))) hb))
  · rw [List.length_map, List.take_length] at h1
    refine exs_ret ?_
    exact (x_retz rfl (v_name (fr_in rfl h1)))
end
section
set_option maxRecDepth 100000
set_option linter.unusedVariables false
set_option linter.unusedSimpArgs false

theorem pre_mem (op : Int) : ([65046, 65054] : List Int).contains op = decide (pre op ≥ 0) := by
  unfold pre
  cases h1 : (op == 65046) with
  | true => have : op = 65046 := by simpa using h1
            subst this; rfl
  | false =>
    cases h2 : (op == 65054) with
    | true => have : op = 65054 := by simpa using h2
              subst this; rfl
    | false =>
      simp only [List.contains_cons, h1, h2, List.contains_nil, Bool.or_false, Bool.false_eq_true, if_false]; rfl
noncomputable def goodT (code : List Row) (cs : List Cl) : Bool := !(cs.any (clBad0 code)) && (!((allEdges cs).any (edgeBad code)) && !(code.any fun r => (goalsR r).any fun g => !okG code.length g))

section
variable (T : Tab) (φe φg : List PyData → Res PyData) (code : List Row) (cs : List Cl)
theorem sem_law_good (he : T.funs "_law_edges" = some φe) (hg : T.funs "_law_goals" = some φg) (hφe : φe [cls cs] = .ok (.list (il (allEdges cs)))) (hφg : ∀ r ∈ code, φg [row r] = .ok (.list (il (goalsR r)))) :
    runDef T frz fuel F_law_good.1.scope ["code", "clauses"] (bodyOf F_law_good.1) [rws code, cls cs] = .ok (.bool (goodT code cs)) := by
  refine run_ret rfl ?_
  simp only [F_law_good, bodyOf, fuel, bindV_cons, bindV_nil, isGlob]
  have cond : ∀ (g : Int), g ≤ (code.length : Int) → 0 < g → index (rws code) (.int (g - 1)) = .ok (row ((code[(g - 1).toNat]?).getD (.pl 0 0))) ∧ opAt code (g - 1) = ((code[(g - 1).toNat]?).getD (.pl 0 0)).op := by
    intro g h1 h2
    obtain ⟨r, hr, hi, hop⟩ := rowAt (code := code) (j := g - 1) (okG_iff.mpr ⟨by omega, by omega⟩)
    rw [hr]; exact ⟨hi, hop⟩
  have hlen : (code.map row).length = code.length := by simp
  have P1 : (cs.map cl).any (fun d => match d with | .tuple [.int s, .int a, .int b, .int c, .int d, .int e] => clBad0 code ⟨s, a, b, c, d, e⟩ | _ => false) = cs.any (clBad0 code) := by rw [List.any_map]; rfl
  have P2 : (il (allEdges cs)).any (fun d => match d with | .int n => edgeBad code n | _ => false) = (allEdges cs).any (edgeBad code) := by unfold il; rw [List.any_map]; rfl
  have P3 : (code.map row).any (fun d => match φg [d] with | .ok (.list gs) => gs.any (fun d => match d with | .int g => !okG code.length g | _ => false) | _ => false) = code.any (fun r => (goalsR r).any fun g => !okG code.length g) := by
    rw [List.any_map, Bool.eq_iff_iff, List.any_eq_true, List.any_eq_true]
    constructor
    · rintro ⟨r, hr, h⟩
      simp only [Function.comp, hφg r hr, il, List.any_map] at h
      exact ⟨r, hr, h⟩
    · rintro ⟨r, hr, h⟩
      refine ⟨r, hr, ?_⟩
      simp only [Function.comp, hφg r hr, il, List.any_map]
      exact h
  refine xfor_any (ds := cs.map cl) (fun d => match d with | .tuple [.int s, .int a, .int b, .int c, .int d, .int e] => clBad0 code ⟨s, a, b, c, d, e⟩ | _ => false) (.ret (.bool false)) (fun _ q => by cases q) (fun Γ => Γ "code" = some (rws code, false) ∧ Γ "clauses" = some (cls cs, false) ∧ Γ "len" = none ∧ Γ "_law_edges" = none ∧ Γ "_law_goals" = none) rfl rfl (by exact (o_name (set_ne rfl set_eq) rfl))
    ⟨by exact set_eq, by exact (set_ne rfl set_eq), by exact (set_ne rfl (set_ne rfl emp_eq)), by exact (set_ne rfl (set_ne rfl emp_eq)), by exact (set_ne rfl (set_ne rfl emp_eq))⟩ (fun d hd Γ ⟨h1, h2, h3, h4, h5⟩ hp => ?_) (fun d hd Γ ⟨h1, h2, h3, h4, h5⟩ hp => ?_) (fun hp Γ ⟨h1, h2, h3, h4, h5⟩ => ?_) (fun hp => ?_)
  · obtain ⟨c, hc, rfl⟩ := List.mem_map.mp hd
    have h0 : clBad0 code c = false := hp
    unfold clBad0 at h0
    rw [Bool.or_eq_false_iff, Bool.or_eq_false_iff] at h0
    obtain ⟨ha, hcc, hse⟩ := h0
    refine go_nxt (eif_f rfl ?_ exs_nil) (go_nil ⟨by exact (set_ne rfl h1), by exact (set_ne rfl h2), by exact (set_ne rfl h3), by exact (set_ne rfl h4), by exact (set_ne rfl h5)⟩)
    cases hs : (c.s == 1) with
    | false => exact (t_all (a_or (t_cmp (v_sub rfl (b_name set_eq) v_int rfl) (h_one (b_else rfl (v_call (set_ne rfl h3) rfl (c_len rfl (b_name (set_ne rfl h1)) u_lenr))) (m_ge ha))) (or_f rfl (a_or (t_cmp (v_sub rfl (b_name set_eq) v_int rfl) (h_one (b_else rfl (v_call (set_ne rfl h3) rfl (c_len rfl (b_name (set_ne rfl h1)) u_lenr))) (m_ge hcc))) (or_f rfl (a_or (t_all (a_and (t_cmp (v_sub rfl (b_name set_eq) v_int rfl) (h_one (b_else rfl v_int) (m_eq hs))) (and_f rfl))) (or_f rfl a_nilo)))))))
    | true =>
      rw [hs, Bool.true_and] at hse
      exact (t_all (a_or (t_cmp (v_sub rfl (b_name set_eq) v_int rfl) (h_one (b_else rfl (v_call (set_ne rfl h3) rfl (c_len rfl (b_name (set_ne rfl h1)) u_lenr))) (m_ge ha))) (or_f rfl (a_or (t_cmp (v_sub rfl (b_name set_eq) v_int rfl) (h_one (b_else rfl (v_call (set_ne rfl h3) rfl (c_len rfl (b_name (set_ne rfl h1)) u_lenr))) (m_ge hcc))) (or_f rfl (a_or (t_all (a_and (t_cmp (v_sub rfl (b_name set_eq) v_int rfl) (h_one (b_else rfl v_int) (m_eq hs))) (and_t rfl (a_and (t_cmp (v_sub rfl (b_name set_eq) v_int rfl) (h_one (b_else rfl (v_call (set_ne rfl h3) rfl (c_len rfl (b_name (set_ne rfl h1)) u_lenr))) (m_ge hse))) (and_f rfl))))) (or_f rfl a_nilo)))))))
  · obtain ⟨c, hc, rfl⟩ := List.mem_map.mp hd
    have h0 : clBad0 code c = true := hp
    unfold clBad0 at h0
    refine exs_ret (eif_t rfl ?_ (exs_ret (by exact (x_ret rfl v_bool))))
    cases ha : decide (c.a ≥ (code.length : Int)) with
    | true => exact (t_all (a_or (t_cmp (v_sub rfl (b_name set_eq) v_int rfl) (h_one (b_else rfl (v_call (set_ne rfl h3) rfl (c_len rfl (b_name (set_ne rfl h1)) u_lenr))) (m_ge ha))) (or_t rfl)))
    | false =>
      cases hcc : decide (c.c ≥ (code.length : Int)) with
      | true => exact (t_all (a_or (t_cmp (v_sub rfl (b_name set_eq) v_int rfl) (h_one (b_else rfl (v_call (set_ne rfl h3) rfl (c_len rfl (b_name (set_ne rfl h1)) u_lenr))) (m_ge ha))) (or_f rfl (a_or (t_cmp (v_sub rfl (b_name set_eq) v_int rfl) (h_one (b_else rfl (v_call (set_ne rfl h3) rfl (c_len rfl (b_name (set_ne rfl h1)) u_lenr))) (m_ge hcc))) (or_t rfl)))))
      | false =>
        rw [ha, hcc, Bool.false_or, Bool.false_or, Bool.and_eq_true] at h0
        exact (t_all (a_or (t_cmp (v_sub rfl (b_name set_eq) v_int rfl) (h_one (b_else rfl (v_call (set_ne rfl h3) rfl (c_len rfl (b_name (set_ne rfl h1)) u_lenr))) (m_ge ha))) (or_f rfl (a_or (t_cmp (v_sub rfl (b_name set_eq) v_int rfl) (h_one (b_else rfl (v_call (set_ne rfl h3) rfl (c_len rfl (b_name (set_ne rfl h1)) u_lenr))) (m_ge hcc))) (or_f rfl (a_or (t_all (a_and (t_cmp (v_sub rfl (b_name set_eq) v_int rfl) (h_one (b_else rfl v_int) (m_eq (And.left h0)))) (and_t rfl (a_and (t_cmp (v_sub rfl (b_name set_eq) v_int rfl) (h_one (b_else rfl (v_call (set_ne rfl h3) rfl (c_len rfl (b_name (set_ne rfl h1)) u_lenr))) (m_ge (And.right h0)))) (and_t rfl a_nila))))) (or_t rfl)))))))
  · rw [P1] at hp
    refine xfor_any (ds := il (allEdges cs)) (fun d => match d with | .int n => edgeBad code n | _ => false) (.ret (.bool false)) (fun _ q => by cases q) (fun Γ => Γ "code" = some (rws code, false) ∧ Γ "len" = none ∧ Γ "_law_goals" = none) rfl rfl (by exact (o_call rfl (v_call h4 rfl (c_fun he rfl (s_cons (v_name h2) s_nil) hφe)) rfl))
      ⟨by exact h1, by exact h3, by exact h5⟩ (fun d hd Γ ⟨h1, h3, h5⟩ hb => ?_) (fun d hd Γ ⟨h1, h3, h5⟩ hb => ?_) (fun hp2 Γ ⟨h1, h3, h5⟩ => ?_) (fun hp2 => ?_)
    · obtain ⟨g, hg', rfl⟩ := List.mem_map.mp hd
      simp only at hb
      unfold edgeBad at hb
      rw [Bool.or_eq_false_iff, Bool.or_eq_false_iff] at hb
      obtain ⟨q1, q2, q3⟩ := hb
      refine go_nxt (eif_f rfl ?_ exs_nil) (go_nil ⟨by exact (set_ne rfl h1), by exact (set_ne rfl h3), by exact (set_ne rfl h5)⟩)
      cases q : decide (g > 0) with
      | false => exact (t_all (a_or (t_cmp (v_name set_eq) (h_one (b_else rfl v_int) (m_lt q1))) (or_f rfl (a_or (t_cmp (v_name set_eq) (h_one (b_else rfl (v_call (set_ne rfl h3) rfl (c_len rfl (b_name (set_ne rfl h1)) u_lenr))) (m_gt q2))) (or_f rfl (a_or (t_all (a_and (t_cmp (v_name set_eq) (h_one (b_else rfl v_int) (m_gt q))) (and_f rfl))) (or_f rfl a_nilo)))))))
      | true =>
        rw [q, Bool.true_and] at q3
        obtain ⟨w1, w2⟩ := cond g (by simpa using q2) (by simpa using q)
        have i0 := idx_row0 ((code[(g - 1).toNat]?).getD (.pl 0 0))
        rw [w2, ← pre_mem, ] at q3
        have hm := memD_il (g := ((code[(g - 1).toNat]?).getD (.pl 0 0)).op) (l := [65046, 65054])
        rw [q3] at hm
        simp only [il, List.map_cons, List.map_nil] at hm
        unfold rws at w1 h1
        exact (t_all (a_or (t_cmp (v_name set_eq) (h_one (b_else rfl v_int) (m_lt q1))) (or_f rfl (a_or (t_cmp (v_name set_eq) (h_one (b_else rfl (v_call (set_ne rfl h3) rfl (c_len rfl (b_name (set_ne rfl h1)) u_lenr))) (m_gt q2))) (or_f rfl (a_or (t_all (a_and (t_cmp (v_name set_eq) (h_one (b_else rfl v_int) (m_gt q))) (and_t rfl (a_and (t_cmp (v_sub rfl (b_else rfl (v_sub rfl (b_name (set_ne rfl h1)) (v_bin (v_name set_eq) v_int rfl) w1)) v_int i0) (h_one (b_else rfl (v_tup (s_cons v_int (s_cons v_int s_nil)) rfl)) (m_int hm))) (and_f rfl))))) (or_f rfl a_nilo)))))))
    · obtain ⟨g, hg', rfl⟩ := List.mem_map.mp hd
      simp only at hb
      unfold edgeBad at hb
      refine exs_ret (eif_t rfl ?_ (exs_ret (by exact (x_ret rfl v_bool))))
      cases q1 : decide (g < 0) with
      | true => exact (t_all (a_or (t_cmp (v_name set_eq) (h_one (b_else rfl v_int) (m_lt q1))) (or_t rfl)))
      | false =>
        cases q2 : decide (g > (code.length : Int)) with
        | true => exact (t_all (a_or (t_cmp (v_name set_eq) (h_one (b_else rfl v_int) (m_lt q1))) (or_f rfl (a_or (t_cmp (v_name set_eq) (h_one (b_else rfl (v_call (set_ne rfl h3) rfl (c_len rfl (b_name (set_ne rfl h1)) u_lenr))) (m_gt q2))) (or_t rfl)))))
        | false =>
          rw [q1, q2, Bool.false_or, Bool.false_or, Bool.and_eq_true] at hb
          obtain ⟨w1, w2⟩ := cond g (by simpa using q2) (by simpa using hb.1)
          have i0 := idx_row0 ((code[(g - 1).toNat]?).getD (.pl 0 0))
          have q3 := hb.2
          rw [w2, ← pre_mem] at q3
          have hm := memD_il (g := ((code[(g - 1).toNat]?).getD (.pl 0 0)).op) (l := [65046, 65054])
          rw [q3] at hm
          simp only [il, List.map_cons, List.map_nil] at hm
          unfold rws at w1 h1
          exact (t_all (a_or (t_cmp (v_name set_eq) (h_one (b_else rfl v_int) (m_lt q1))) (or_f rfl (a_or (t_cmp (v_name set_eq) (h_one (b_else rfl (v_call (set_ne rfl h3) rfl (c_len rfl (b_name (set_ne rfl h1)) u_lenr))) (m_gt q2))) (or_f rfl (a_or (t_all (a_and (t_cmp (v_name set_eq) (h_one (b_else rfl v_int) (m_gt (And.left hb)))) (and_t rfl (a_and (t_cmp (v_sub rfl (b_else rfl (v_sub rfl (b_name (set_ne rfl h1)) (v_bin (v_name set_eq) v_int rfl) w1)) v_int i0) (h_one (b_else rfl (v_tup (s_cons v_int (s_cons v_int s_nil)) rfl)) (m_int hm))) (and_t rfl a_nila))))) (or_t rfl)))))))
    · rw [P2] at hp2
      refine xfor_any (ds := code.map row) (fun d => match φg [d] with | .ok (.list gs) => gs.any (fun d => match d with | .int g => !okG code.length g | _ => false) | _ => false) (.ret (.bool false)) (fun _ q => by cases q) (fun Γ => Γ "code" = some (rws code, false) ∧ Γ "len" = none ∧ Γ "_law_goals" = none) rfl rfl (by exact (o_name h1 rfl))
        ⟨by exact h1, by exact h3, by exact h5⟩ (fun d hd Γ ⟨h1, h3, h5⟩ hb => ?_) (fun d hd Γ ⟨h1, h3, h5⟩ hb => ?_) (fun hp3 Γ ⟨h1, h3, h5⟩ => ?_) (fun hp3 => ?_)
      · obtain ⟨r, hr, rfl⟩ := List.mem_map.mp hd
        have hφ := hφg r hr
        simp only [hφ] at hb
        refine go_for_any (ds := il (goalsR r)) (fun Γ => Γ "code" = some (rws code, false) ∧ Γ "len" = none ∧ Γ "_law_goals" = none) rfl rfl (by exact (o_call rfl (v_call (set_ne rfl h5) rfl (c_fun hg rfl (s_cons (v_name set_eq) s_nil) hφ)) rfl)) ⟨by exact (set_ne rfl h1), by exact (set_ne rfl h3), by exact (set_ne rfl h5)⟩ (fun d hd Γ ⟨h1, h3, h5⟩ => ?_) (fun Γ h => go_nil h)
        have hb' := List.any_eq_false.mp hb d hd
        obtain ⟨g, hg', rfl⟩ := List.mem_map.mp hd
        simp only [Bool.not_eq_true, Bool.not_eq_false'] at hb'
        have hok := okG_iff.mp hb'
        have q1 : decide (g < 0) = false := by simp; omega
        have q2 : decide (g ≥ (code.length : Int)) = false := by simp; omega
        refine go_nxt (eif_f rfl (by exact (t_all (a_or (t_cmp (v_name set_eq) (h_one (b_else rfl v_int) (m_lt q1))) (or_f rfl (a_or (t_cmp (v_name set_eq) (h_one (b_else rfl (v_call (set_ne rfl h3) rfl (c_len rfl (b_name (set_ne rfl h1)) u_lenr))) (m_ge q2))) (or_f rfl a_nilo)))))) exs_nil) (go_nil ⟨by exact (set_ne rfl h1), by exact (set_ne rfl h3), by exact (set_ne rfl h5)⟩)
      · obtain ⟨r, hr, rfl⟩ := List.mem_map.mp hd
        have hφ := hφg r hr
        simp only [hφ] at hb
        refine for_any_stop (ds := il (goalsR r)) (fun d => match d with | .int g => !okG code.length g | _ => false) (fun _ q => by cases q) (fun Γ => Γ "code" = some (rws code, false) ∧ Γ "len" = none ∧ Γ "_law_goals" = none) rfl rfl (by exact (o_call rfl (v_call (set_ne rfl h5) rfl (c_fun hg rfl (s_cons (v_name set_eq) s_nil) hφ)) rfl)) ⟨by exact (set_ne rfl h1), by exact (set_ne rfl h3), by exact (set_ne rfl h5)⟩ hb (fun d hd Γ ⟨h1, h3, h5⟩ hb' => ?_) (fun d hd Γ ⟨h1, h3, h5⟩ hb' => ?_)
        · obtain ⟨g, hg', rfl⟩ := List.mem_map.mp hd
          simp only [Bool.not_eq_false'] at hb'
          have hok := okG_iff.mp hb'
          have q1 : decide (g < 0) = false := by simp; omega
          have q2 : decide (g ≥ (code.length : Int)) = false := by simp; omega
          refine go_nxt (eif_f rfl (by exact (t_all (a_or (t_cmp (v_name set_eq) (h_one (b_else rfl v_int) (m_lt q1))) (or_f rfl (a_or (t_cmp (v_name set_eq) (h_one (b_else rfl (v_call (set_ne rfl h3) rfl (c_len rfl (b_name (set_ne rfl h1)) u_lenr))) (m_ge q2))) (or_f rfl a_nilo)))))) exs_nil) (go_nil ⟨by exact (set_ne rfl h1), by exact (set_ne rfl h3), by exact (set_ne rfl h5)⟩)
        · obtain ⟨g, hg', rfl⟩ := List.mem_map.mp hd
          simp only [Bool.not_eq_true'] at hb'
          have hok : ¬ (0 ≤ g ∧ g < code.length) := fun h => by rw [okG_iff.mpr h] at hb'; cases hb'
          refine exs_ret (eif_t rfl ?_ (exs_ret (by exact (x_ret rfl v_bool))))
          cases q1 : decide (g < 0) with
          | true => exact (t_all (a_or (t_cmp (v_name set_eq) (h_one (b_else rfl v_int) (m_lt q1))) (or_t rfl)))
          | false =>
            have q2 : decide (g ≥ (code.length : Int)) = true := by simp at q1 ⊢; omega
            exact (t_all (a_or (t_cmp (v_name set_eq) (h_one (b_else rfl v_int) (m_lt q1))) (or_f rfl (a_or (t_cmp (v_name set_eq) (h_one (b_else rfl (v_call (set_ne rfl h3) rfl (c_len rfl (b_name (set_ne rfl h1)) u_lenr))) (m_ge q2))) (or_t rfl)))))
      · rw [P3] at hp3
        refine exs_ret ?_
        exact Eq.trans (x_ret rfl v_bool) (by simp only [List.length_cons, List.length_nil, if_true, if_false, reduceIte, reduceCtorEq, Option.map_some, Option.map_none, Int.reduceLE, Int.reduceLT, Int.reduceToNat, List.getElem?_cons_zero, List.getElem?_cons_succ, cmp1i, cmp1in, Bool.false_eq_true, or_false, or_true, true_or, false_or, beq_self_eq_true, Nat.reduceAdd, decide_true, decide_false, binop_add, binop_sub, Bool.and_true, Bool.true_and, Bool.and_false, Bool.false_and, Bool.or_false, Bool.or_true, Bool.true_or, Bool.false_or, List.isEmpty_cons, List.isEmpty_nil, Bool.not_true, Bool.not_false, and_true, true_and, and_self, ne_eq, not_false_eq_true, List.length_map, cmpint, goodT, hp, hp2, hp3])
      · rw [P3] at hp3
        unfold goodT
        rw [hp3]; simp
    · rw [P2] at hp2
      unfold goodT
      rw [hp2]; simp
  · rw [P1] at hp
    unfold goodT
    rw [hp]; simp
end
end
section
set_option maxRecDepth 100000
set_option linter.unusedVariables false
set_option linter.unusedSimpArgs false

noncomputable def partOf (i : Int) (c : Cl) : PyData := .tuple [.bool (decide (c.a ≤ i) && decide (i < c.b)), .bool (c.s == 1 && (decide (c.e ≤ i) && decide (i < c.c))), .bool (decide (c.c ≤ i) && decide (i < c.d))]
noncomputable def partsD (cs : List Cl) (i : Int) : PyData := .list (cs.map (partOf i))
theorem sem_law_parts (T : Tab) (cs : List Cl) (i : Int) (hm : cs.length ≤ 90) : runDef T frz fuel F_law_parts.1.scope ["clauses", "i"] (bodyOf F_law_parts.1) [cls cs, .int i] = .ok (partsD cs i) := by
  refine run_ret rfl ?_
  simp only [F_law_parts, bodyOf, fuel, bindV_cons, bindV_nil, isGlob]
  refine exs_ret ?_
  unfold partsD
  refine (x_ret rfl (v_comp ?_))
  refine evComp_ok (items := cs.map cl) (ds := cs.map (partOf i)) rfl (by exact rfl) ⟨rfl, rfl, rfl⟩ (by exact (i_name set_eq rfl)) (by simp; omega) ?_
  · have hf : (cs.map (partOf i)) = (cs.map cl).map (fun d => match d with | .tuple [.int s, .int a, .int b, .int c, .int d, .int e] => partOf i ⟨s, a, b, c, d, e⟩ | _ => d) := by rw [List.map_map]; rfl
    rw [hf]
    refine compL_map _ _ fun d hd => ?_
    obtain ⟨c, hc, rfl⟩ := List.mem_map.mp hd
    refine ⟨rfl, ?_⟩
    have e : (match cl c with | .tuple [.int s, .int a, .int b, .int c, .int d, .int e] => partOf i ⟨s, a, b, c, d, e⟩ | _ => cl c) = partOf i c := rfl
    rw [e]
    exact Eq.trans (v_tup (s_cons (v_cmp (v_sub rfl (b_name set_eq) v_int rfl) (h_two (v_name (set_ne rfl (on_in rfl (set_ne rfl set_eq)))) (m_le rfl) (and_s (h_one (b_else rfl (v_sub rfl (b_name set_eq) v_int rfl)) (m_lt rfl))))) (s_cons (v_or1 (w_and (v_cmp (v_sub rfl (b_name set_eq) v_int rfl) (h_one (b_else rfl v_int) (m_eq rfl))) (r_bool rfl) (andv_s (w_one (v_cmp (v_sub rfl (b_name set_eq) v_int rfl) (h_two (v_name (set_ne rfl (on_in rfl (set_ne rfl set_eq)))) (m_le rfl) (and_s (h_one (b_else rfl (v_sub rfl (b_name set_eq) v_int rfl)) (m_lt rfl))))))))) (s_cons (v_cmp (v_sub rfl (b_name set_eq) v_int rfl) (h_two (v_name (set_ne rfl (on_in rfl (set_ne rfl set_eq)))) (m_le rfl) (and_s (h_one (b_else rfl (v_sub rfl (b_name set_eq) v_int rfl)) (m_lt rfl))))) s_nil))) rfl) (by simp only [List.length_cons, List.length_nil, if_true, if_false, reduceIte, reduceCtorEq, Option.map_some, Option.map_none, Int.reduceLE, Int.reduceLT, Int.reduceToNat, List.getElem?_cons_zero, List.getElem?_cons_succ, cmp1i, cmp1in, Bool.false_eq_true, or_false, or_true, true_or, false_or, beq_self_eq_true, Nat.reduceAdd, decide_true, decide_false, binop_add, binop_sub, Bool.and_true, Bool.true_and, Bool.and_false, Bool.false_and, Bool.or_false, Bool.or_true, Bool.true_or, Bool.false_or, List.isEmpty_cons, List.isEmpty_nil, Bool.not_true, Bool.not_false, and_true, true_and, and_self, ne_eq, not_false_eq_true, List.length_map, cmpint, cmple, cmplt, only_app, gF, lF, cF, cl, partOf])

noncomputable def behindI (ls : List Int) (n : Int) : Int := match ls.filter (fun i => decide (i ≥ n)) ++ [999] with
  | a :: r => r.foldl min a
  | [] => 999
theorem intsOf_il : ∀ l : List Int, intsOf (il l) = some l
  | [] => rfl
  | a :: l => by
    have ih := intsOf_il l
    simp only [il, List.map_cons, intsOf] at ih ⊢
    rw [ih]; rfl
theorem min_il (l : List Int) (a : Int) (r : List Int) (h : l = a :: r) : builtin1 "min" (.list (il l)) = .ok (.int (r.foldl min a)) := by
  subst h
  have h2 := intsOf_il (a :: r)
  unfold builtin1
  simp only [ofStr_inj, String.reduceEq, if_false, if_true, h2]
theorem sem_law_behind (T : Tab) (ls : List Int) (n : Int) (hm : ls.length ≤ 90) : runDef T frz fuel F_law_behind.1.scope ["live", "n"] (bodyOf F_law_behind.1) [.list (il ls), .int n] = .ok (.int (behindI ls n)) := by
  refine run_ret rfl ?_
  simp only [F_law_behind, bodyOf, fuel, bindV_cons, bindV_nil, isGlob]
  refine exs_ret ?_
  have hb : binop .Add (.list (il (ls.filter fun i => decide (i ≥ n)))) (.list [.int 999]) = .ok (.list (il (ls.filter (fun i => decide (i ≥ n)) ++ [999]))) := by
    show Res.guard (decide ((il (ls.filter fun i => decide (i ≥ n))).length + 1 ≤ szMax)) _ = _
    have h3 : (ls.filter fun i => decide (i ≥ n)).length ≤ ls.length := List.length_filter_le _ _
    rw [decide_eq_true (by simp only [il, List.length_map]; unfold szMax; omega)]
    simp only [Res.guard_true, il, List.map_append, List.map_cons, List.map_nil]
  unfold behindI
  cases hl : ls.filter (fun i => decide (i ≥ n)) ++ [999] with
  | nil => simp at hl
  | cons a r =>
    have hmn := min_il _ a r hl
    rw [hl] at hb
    rw [hl] at hmn
    show _ = Out.ret (.int (r.foldl min a))
    refine (x_ret rfl (v_call (set_ne rfl (set_ne rfl emp_eq)) rfl (c_min1 rfl (b_else rfl (v_bin (v_comp ?_) (v_list (s_cons v_int s_nil) rfl) hb)) hmn)))
    refine evComp_ok (items := il ls) (ds := il (ls.filter fun i => decide (i ≥ n))) rfl (by exact rfl) ⟨rfl, rfl, rfl⟩ (by exact (i_name set_eq rfl)) (by simp [il]; omega) ?_
    have hf : il (ls.filter fun i => decide (i ≥ n)) = ((il ls).filter (fun d => match d with | .int i => decide (i ≥ n) | _ => false)).map id := by
      rw [List.map_id]
      unfold il
      rw [List.filter_map]; rfl
    rw [hf]
    refine compL_filter _ _ _ fun d hd => ?_
    obtain ⟨g, hg, rfl⟩ := List.mem_map.mp hd
    exact ⟨by exact (q_one (t_cmp (v_name set_eq) (h_one (b_name (set_ne rfl (on_in rfl (set_ne rfl set_eq)))) (m_ge rfl)))), by exact Eq.trans (v_name set_eq) (by simp only [List.length_cons, List.length_nil, if_true, if_false, reduceIte, reduceCtorEq, Option.map_some, Option.map_none, Int.reduceLE, Int.reduceLT, Int.reduceToNat, List.getElem?_cons_zero, List.getElem?_cons_succ, cmp1i, cmp1in, Bool.false_eq_true, or_false, or_true, true_or, false_or, beq_self_eq_true, Nat.reduceAdd, decide_true, decide_false, binop_add, binop_sub, Bool.and_true, Bool.true_and, Bool.and_false, Bool.false_and, Bool.or_false, Bool.or_true, Bool.true_or, Bool.false_or, List.isEmpty_cons, List.isEmpty_nil, Bool.not_true, Bool.not_false, and_true, true_and, and_self, ne_eq, not_false_eq_true, List.length_map, cmpint, only_app, id])⟩
end
section
set_option maxRecDepth 100000
set_option linter.unusedVariables false
set_option linter.unusedSimpArgs false

noncomputable def gd (G : List (Int × List Int)) : PyData := .dict (G.map fun p => (.int p.1, .list (il p.2)))
noncomputable def lookG (G : List (Int × List Int)) (a : Int) : Option (List Int) := (G.find? fun p => p.1 == a).map (·.2)
theorem idx_gd {a : Int} {l : List Int} : ∀ {G : List (Int × List Int)}, lookG G a = some l → index (gd G) (.int a) = .ok (.list (il l))
  | [], h => by cases h
  | p :: G, h => by
    have ih := idx_gd (a := a) (l := l) (G := G)
    unfold lookG at h ih
    simp only [index, gd, List.map_cons, List.find?_cons] at h ih ⊢
    cases hp : (p.1 == a) with
    | true =>
      rw [hp] at h
      simp only [Option.map_some, Option.some.injEq] at h
      simp only [h]
    | false =>
      rw [hp] at h
      exact ih h
noncomputable def partsAll (cs : List Cl) (n : Nat) : PyData := .list ((List.range n).map fun (j : Nat) => partsD cs (j : Int))
theorem idx_parts {cs : List Cl} {n : Nat} {a : Int} (h : okG n a = true) : index (partsAll cs n) (.int a) = .ok (partsD cs a) := by
  obtain ⟨h0, h1⟩ := okG_iff.mp h
  obtain ⟨k, rfl⟩ := Int.eq_ofNat_of_zero_le h0
  have hk : k < n := by omega
  exact idx_list (by simp [List.getElem?_map, List.getElem?_range hk])
noncomputable def peq (cs : List Cl) (a b : Int) : Bool := PyData.eqv (partsD cs a) (partsD cs b)
theorem okD_parts (cs : List Cl) (a : Int) : okD 8 (partsD cs a) = true := by
  unfold partsD okD
  simp only [List.all_eq_true]
  intro d hd
  obtain ⟨c, _, rfl⟩ := List.mem_map.mp hd
  rfl
theorem cmp_parts (cs : List Cl) (a b : Int) : cmp1 .Eq (partsD cs a) (partsD cs b) = .ok (peq cs a b) := by
  have e : cmp1 .Eq (partsD cs a) (partsD cs b) = Res.guard (okD 8 (partsD cs a) && okD 8 (partsD cs b)) (.ok (PyData.eqv (partsD cs a) (partsD cs b))) := rfl
  rw [e, okD_parts, okD_parts]; rfl

noncomputable def lchase (code : List Row) (cs : List Cl) (ls : List Int) (G : List (Int × List Int)) (i goal : Int) : Nat → Int → Int → Int
  | 0, _, a => a
  | k + 1, st, a => if opAt code a == 56 && peq cs a i then (if decide (st + 1 > (code.length : Int)) then behindI ls goal else lchase code cs ls G i goal k (st + 1) (behindI ls (((lookG G a).getD []).headD 0))) else a
noncomputable def lendT (code : List Row) (cs : List Cl) (ls : List Int) (G : List (Int × List Int)) (i goal : Int) : Int := lchase code cs ls G i goal turns 0 (behindI ls goal)

section
variable (T : Tab) (φb : List PyData → Res PyData) (code : List Row) (cs : List Cl) (ls : List Int) (G : List (Int × List Int))
theorem sem_law_end (hb : T.funs "_law_behind" = some φb) (hφb : ∀ n, φb [.list (il ls), .int n] = .ok (.int (behindI ls n))) (hm : code.length ≤ 90) (i goal : Int) (hi : okG code.length i = true) (hls : ∀ a ∈ ls, okG code.length a = true)
    (hg : behindI ls goal ∈ ls) (hG : ∀ a ∈ ls, opAt code a = 56 → ∃ g gs, lookG G a = some (g :: gs) ∧ behindI ls g ∈ ls) :
    runDef T frz fuel F_law_end.1.scope ["code", "parts", "live", "goals", "i", "goal"] (bodyOf F_law_end.1) [rws code, partsAll cs code.length, .list (il ls), gd G, .int i, .int goal] = .ok (.int (lendT code cs ls G i goal)) := by
  refine run_ret rfl ?_
  simp only [F_law_end, bodyOf, fuel, bindV_cons, bindV_nil, isGlob]
  unfold lendT
  generalize hR : lchase code cs ls G i goal turns 0 (behindI ls goal) = R
  refine exs_nxt (by exact (x_set rfl rfl rfl (v_call (set_ne rfl (set_ne rfl (set_ne rfl (set_ne rfl (set_ne rfl (set_ne rfl emp_eq)))))) rfl (c_fun hb rfl (s_cons (v_name (set_ne rfl (set_ne rfl set_eq))) (s_cons (v_name (set_ne rfl (set_ne rfl (set_ne rfl (set_ne rfl (set_ne rfl set_eq)))))) s_nil)) (hφb _))))) ?_
  refine exs_nxt (by exact (x_set rfl rfl rfl v_int)) ?_
  refine xwhile (fun k Γ => ∃ st a, Γ "code" = some (rws code, false) ∧ Γ "parts" = some (partsAll cs code.length, false) ∧ Γ "live" = some (.list (il ls), false) ∧ Γ "goals" = some (gd G, false) ∧ Γ "i" = some (.int i, false) ∧ Γ "goal" = some (.int goal, false) ∧ Γ "at" = some (.int a, false) ∧
      Γ "steps" = some (.int st, false) ∧ Γ "_law_behind" = none ∧ Γ "len" = none ∧ a ∈ ls ∧ 0 ≤ st ∧ st ≤ code.length ∧ (code.length : Int) + 2 ≤ k + st ∧ lchase code cs ls G i goal k st a = R)
    (fun o' => o' = .ret (.int R) ∨ ∃ Γ', o' = .nxt Γ' ∧ Γ' "at" = some (.int R, false)) rfl
    ⟨0, behindI ls goal, by exact (set_ne rfl (set_ne rfl set_eq)), by exact (set_ne rfl (set_ne rfl (set_ne rfl set_eq))), by exact (set_ne rfl (set_ne rfl (set_ne rfl (set_ne rfl set_eq)))), by exact (set_ne rfl (set_ne rfl (set_ne rfl (set_ne rfl (set_ne rfl set_eq))))), by exact (set_ne rfl (set_ne rfl (set_ne rfl (set_ne rfl (set_ne rfl (set_ne rfl set_eq)))))), by exact (set_ne rfl (set_ne rfl (set_ne rfl (set_ne rfl (set_ne rfl (set_ne rfl (set_ne rfl set_eq))))))), by exact (set_ne rfl set_eq), by exact set_eq, by exact (set_ne rfl (set_ne rfl (set_ne rfl (set_ne rfl (set_ne rfl (set_ne rfl (set_ne rfl (set_ne rfl emp_eq)))))))), by exact (set_ne rfl (set_ne rfl (set_ne rfl (set_ne rfl (set_ne rfl (set_ne rfl (set_ne rfl (set_ne rfl emp_eq)))))))), hg, by omega, by omega, by unfold turns; omega, hR⟩
    (fun Γ h => ?_) (fun k Γ h => ?_) (fun o' h => ?_)
  · obtain ⟨st, a, _, _, _, _, _, _, _, _, _, _, _, _, h1, h2, _⟩ := h
    omega
  · obtain ⟨st, a, h1, h2, h3, h4, h5, h6, h7, h8, h9, h10, ha, s0, s1, s2, hch⟩ := h
    have hoa := hls a ha
    obtain ⟨r, hr, hidx, hop⟩ := rowAt hoa
    have i0 := idx_row0 r
    have p1 := idx_parts (cs := cs) hoa
    have p2 := idx_parts (cs := cs) hi
    have cp := cmp_parts cs a i
    unfold lchase at hch
    cases ho56 : (r.op == 56) with
    | false =>
      left
      refine ⟨by exact (t_all (a_and (t_cmp (v_sub rfl (b_else rfl (v_sub rfl (b_name h1) (v_name h7) hidx)) v_int i0) (h_one (b_else rfl v_int) (m_eq ho56))) (and_f rfl))), ?_⟩
      rw [hop, ho56] at hch
      simp only [Bool.false_and, Bool.false_eq_true, if_false] at hch
      subst hch
      exact .inr ⟨Γ, rfl, h7⟩
    | true =>
      cases hpe : peq cs a i with
      | false =>
        left
        rw [hpe] at cp
        refine ⟨by exact (t_all (a_and (t_cmp (v_sub rfl (b_else rfl (v_sub rfl (b_name h1) (v_name h7) hidx)) v_int i0) (h_one (b_else rfl v_int) (m_eq ho56))) (and_t rfl (a_and (t_cmp (v_sub rfl (b_name h2) (v_name h7) p1) (h_one (b_else rfl (v_sub rfl (b_name h2) (v_name h5) p2)) cp)) (and_f rfl))))), ?_⟩
        rw [hop, ho56, hpe] at hch
        simp only [Bool.and_false, Bool.false_eq_true, if_false] at hch
        subst hch
        exact .inr ⟨Γ, rfl, h7⟩
      | true =>
        right
        rw [hpe] at cp
        refine ⟨by exact (t_all (a_and (t_cmp (v_sub rfl (b_else rfl (v_sub rfl (b_name h1) (v_name h7) hidx)) v_int i0) (h_one (b_else rfl v_int) (m_eq ho56))) (and_t rfl (a_and (t_cmp (v_sub rfl (b_name h2) (v_name h7) p1) (h_one (b_else rfl (v_sub rfl (b_name h2) (v_name h5) p2)) cp)) (and_t rfl a_nila))))), ?_⟩
        obtain ⟨g, gs, hl, hin⟩ := hG a ha (by rw [hop]; simpa using ho56)
        have ig := idx_gd hl
        have ih : index (.list (il (g :: gs))) (.int 0) = .ok (.int g) := rfl
        rw [hop, ho56, hpe, hl] at hch
        simp only [Bool.and_self, if_true, Option.getD_some, List.headD_cons] at hch
        have hlen : (code.map row).length = code.length := by simp
        cases hst : decide (st + 1 > (code.length : Int)) with
        | true =>
          right; left
          rw [hst] at hch
          simp only [if_true] at hch
          refine ⟨.int (behindI ls goal), exs_nxt (by exact (x_set rfl rfl rfl (v_call h9 rfl (c_fun hb rfl (s_cons (v_name h3) (s_cons (v_sub rfl (b_else rfl (v_sub rfl (b_name h4) (v_name h7) ig)) v_int ih) s_nil)) (hφb _))))) (exs_nxt (by exact (x_aug rfl (set_ne rfl h8) rfl v_int)) (exs_ret (eif_t rfl (by exact (t_cmp (v_name set_eq) (h_one (b_else rfl (v_call (set_ne rfl (set_ne rfl h10)) rfl (c_len rfl (b_name (set_ne rfl (set_ne rfl h1))) u_lenr))) (m_gt hst)))) (exs_ret (by exact (x_ret rfl (v_call (set_ne rfl (set_ne rfl h9)) rfl (c_fun hb rfl (s_cons (v_name (set_ne rfl (set_ne rfl h3))) (s_cons (v_name (set_ne rfl (set_ne rfl h6))) s_nil)) (hφb _))))))))), ?_⟩
          rw [← hch]; exact .inl rfl
        | false =>
          left
          rw [hst] at hch
          simp only [Bool.false_eq_true, if_false] at hch
          refine go_nxt (by exact (x_set rfl rfl rfl (v_call h9 rfl (c_fun hb rfl (s_cons (v_name h3) (s_cons (v_sub rfl (b_else rfl (v_sub rfl (b_name h4) (v_name h7) ig)) v_int ih) s_nil)) (hφb _))))) (go_nxt (by exact (x_aug rfl (set_ne rfl h8) rfl v_int)) (go_nxt (eif_f rfl (by exact (t_cmp (v_name set_eq) (h_one (b_else rfl (v_call (set_ne rfl (set_ne rfl h10)) rfl (c_len rfl (b_name (set_ne rfl (set_ne rfl h1))) u_lenr))) (m_gt hst)))) exs_nil) (go_nil ?_)))
          have hst' : ¬ (st + 1 > (code.length : Int)) := by simpa using hst
          exact ⟨st + 1, behindI ls g, by exact (set_ne rfl (set_ne rfl h1)), by exact (set_ne rfl (set_ne rfl h2)), by exact (set_ne rfl (set_ne rfl h3)), by exact (set_ne rfl (set_ne rfl h4)), by exact (set_ne rfl (set_ne rfl h5)), by exact (set_ne rfl (set_ne rfl h6)), by exact (set_ne rfl set_eq), by exact set_eq, by exact (set_ne rfl (set_ne rfl h9)), by exact (set_ne rfl (set_ne rfl h10)), hin, by omega, by omega, by omega, hch⟩
  · rcases h with rfl | ⟨Γ', rfl, h2⟩
    · rfl
    · exact exs_ret (by exact (x_ret rfl (v_name h2)))
end
end
section
set_option maxRecDepth 100000
set_option linter.unusedVariables false
set_option linter.unusedSimpArgs false

theorem cL : (some NameKind.cell = some NameKind.local) = False := by simp
noncomputable def getG (G : List (Int × List Int)) (a : Int) : List Int := (lookG G a).getD []
noncomputable def outG (code : List Row) (cs : List Cl) (ls : List Int) (G : List (Int × List Int)) : List (Int × List Int) := ls.map fun i => (i, if opAt code i == 221 then getG G i else (getG G i).map (lendT code cs ls G i))
noncomputable def stayB (code : List Row) (cs : List Cl) (ls : List Int) (O : List (Int × List Int)) (i : Int) : Bool :=
  !(opAt code i == 56) || (!((getG O i).headD 0 == behindI ls (i + 1)) || ((allEdges cs).contains i || (allEdges cs).contains (behindI ls (i + 1))))
noncomputable def stayL (code : List Row) (cs : List Cl) (ls : List Int) (O : List (Int × List Int)) : List Int := ls.filter (stayB code cs ls O)

theorem lookG_map {f : Int → List Int} : ∀ {ls : List Int} {a : Int}, a ∈ ls → lookG (ls.map fun i => (i, f i)) a = some (f a)
  | b :: ls, a, h => by
    unfold lookG
    rw [List.map_cons, List.find?_cons]
    cases hb : (b == a) with
    | true => have : b = a := by simpa using hb
              subst this; rfl
    | false =>
      have hne : a ≠ b := fun q => by subst q; simp at hb
      have := lookG_map (f := f) (ls := ls) (a := a) (by rcases List.mem_cons.mp h with h | h; exact absurd h hne; exact h)
      unfold lookG at this
      exact this
  | [], _, h => by cases h
theorem storeKV_new {k : Int} {d : PyData} {G : List (Int × List Int)} (h : k ∉ G.map (·.1)) : storeKV k d (G.map fun p => ((PyData.int p.1, PyData.list (il p.2)) : PyData × PyData)) = (G.map fun p => ((PyData.int p.1, PyData.list (il p.2)) : PyData × PyData)) ++ [(.int k, d)] := by
  unfold storeKV
  rw [if_neg]
  simp only [List.any_map, List.any_eq_true, not_exists, not_and, Function.comp, keyIs, decide_eq_true_eq]
  intro p hp q
  exact h (List.mem_map.mpr ⟨p, hp, q⟩)

section
variable (T : Tab) (φp φe φd φb : List PyData → Res PyData) (code : List Row) (cs : List Cl) (ls : List Int) (G : List (Int × List Int))
theorem sem_law_round (hp : T.funs "_law_parts" = some φp) (he : T.funs "_law_end" = some φe) (hd : T.funs "_law_edges" = some φd) (hb : T.funs "_law_behind" = some φb)
    (hφp : ∀ i, φp [cls cs, .int i] = .ok (partsD cs i)) (hφd : φd [cls cs] = .ok (.list (il (allEdges cs)))) (hφb : ∀ n, φb [.list (il ls), .int n] = .ok (.int (behindI ls n)))
    (hφe : ∀ i ∈ ls, (opAt code i == 221) = false → ∀ g ∈ getG G i, φe [rws code, partsAll cs code.length, .list (il ls), gd G, .int i, .int g] = .ok (.int (lendT code cs ls G i g)))
    (hm : code.length ≤ 90) (hml : ls.length ≤ 90) (hls : ∀ a ∈ ls, okG code.length a = true) (hnd : ls.Nodup) (hG : ∀ a ∈ ls, lookG G a = some (getG G a)) (hG56 : ∀ a ∈ ls, opAt code a = 56 → getG G a ≠ []) (hGl : ∀ a ∈ ls, (getG G a).length ≤ 90) :
    runDef T frz fuel F_law_round.1.scope ["code", "clauses", "live", "goals"] (bodyOf F_law_round.1) [rws code, cls cs, .list (il ls), gd G] = .ok (.tuple [.list (il (stayL code cs ls (outG code cs ls G))), gd (outG code cs ls G)]) := by
  refine run_ret rfl ?_
  simp only [F_law_round, bodyOf, fuel, bindV_cons, bindV_nil, isGlob]
  refine exs_nxt (Γ' := ((((((emp.set "goals" (gd G) false).set "live" (.list (il ls)) false).set "clauses" (cls cs) false).set "code" (rws code) false)).set "parts" (partsAll cs code.length) false)) ?_ ?_
  · unfold partsAll
    refine (x_lc rfl rfl rfl (v_comp ?_))
    refine evComp_ok (items := rangeD code.length) (ds := (List.range code.length).map fun (j : Nat) => partsD cs (j : Int)) rfl (by exact rfl) ⟨rfl, rfl, rfl⟩ (evIter_rangeN (by omega) (by exact (set_ne rfl (set_ne rfl (set_ne rfl (set_ne rfl emp_eq))))) rfl (by exact (v_call (set_ne rfl (set_ne rfl (set_ne rfl (set_ne rfl emp_eq)))) rfl (c_len rfl (b_name set_eq) u_lenr)))) (by simp [rangeD]; omega) ?_
    · have hf : ((List.range code.length).map fun (j : Nat) => partsD cs (j : Int)) = (rangeD code.length).map (fun d => match d with | .int i => partsD cs i | d => d) := by
        unfold rangeD; rw [Int.toNat_natCast, List.map_map]; rfl
      rw [hf]
      refine compL_map _ _ fun d hd' => ?_
      obtain ⟨j, hj, rfl⟩ := List.mem_map.mp hd'
      exact ⟨rfl, by exact (v_call (set_ne rfl (on_out rfl)) rfl (c_fun hp rfl (s_cons (v_name (set_ne rfl (on_in rfl (set_ne rfl set_eq)))) (s_cons (v_name set_eq) s_nil)) (hφp _)))⟩
  refine exs_nxt (by exact (x_setd rfl rfl)) ?_
  have hkeys : ∀ k, (outG code cs (ls.take k) G).map (·.1) = ls.take k := fun k => by unfold outG; rw [List.map_map]; exact List.map_id _
  have hKV : ∀ (H : List (Int × List Int)), gd H = .dict (H.map fun p => ((PyData.int p.1, PyData.list (il p.2)) : PyData × PyData)) := fun _ => rfl
  refine xfor (ds := il ls) (fun k Γ => Γ "out" = some (gd ((ls.take k).map fun i => (i, if opAt code i == 221 then getG G i else (getG G i).map (lendT code cs ls G i))), true) ∧ Γ "code" = some (rws code, false) ∧ Γ "clauses" = some (cls cs, false) ∧ Γ "live" = some (.list (il ls), false) ∧ Γ "goals" = some (gd G, false) ∧ Γ "parts" = some (partsAll cs code.length, false) ∧
      Γ "_law_end" = none ∧ Γ "_law_edges" = none ∧ Γ "_law_behind" = none) rfl rfl (by exact (o_name (set_ne rfl (set_ne rfl (set_ne rfl (set_ne rfl set_eq)))) rfl)) ⟨by exact Eq.trans set_eq rfl, by exact (set_ne rfl (set_ne rfl set_eq)), by exact (set_ne rfl (set_ne rfl (set_ne rfl set_eq))), by exact (set_ne rfl (set_ne rfl (set_ne rfl (set_ne rfl set_eq)))), by exact (set_ne rfl (set_ne rfl (set_ne rfl (set_ne rfl (set_ne rfl set_eq))))), by exact (set_ne rfl set_eq), by exact (set_ne rfl (set_ne rfl (set_ne rfl (set_ne rfl (set_ne rfl (set_ne rfl emp_eq)))))), by exact (set_ne rfl (set_ne rfl (set_ne rfl (set_ne rfl (set_ne rfl (set_ne rfl emp_eq)))))), by exact (set_ne rfl (set_ne rfl (set_ne rfl (set_ne rfl (set_ne rfl (set_ne rfl emp_eq))))))⟩
      (fun k d Γ hk ⟨h1, h2, h3, h4, h5, h6, h7, h8, h9⟩ => ?_) fun Γ ⟨h1, h2, h3, h4, h5, h6, h7, h8, h9⟩ => ?_
  · have hkl := getE hk
    rw [show (il ls)[k]? = (ls[k]?).map .int by simp [il]] at hk
    obtain ⟨a, hka, rfl⟩ := Option.map_eq_some_iff.mp hk
    have ha := List.mem_of_getElem? hka
    obtain ⟨r, hr, hidx, hop⟩ := rowAt (hls a ha)
    have i0 := idx_row0 r
    have ig := idx_gd (hG a ha)
    have ht : ls.take (k + 1) = ls.take k ++ [a] := by rw [List.take_add_one, hka]; rfl
    have hnew : a ∉ ls.take k := by
      intro hin
      have := hnd
      rw [← List.take_append_drop (k + 1) ls, ht, List.append_assoc] at this
      exact (List.nodup_append.mp this).2.2 a hin a (by simp) rfl
    have hst := fun (l : List Int) => storeKV_new (k := a) (d := .list (il l)) (G := (ls.take k).map fun i => (i, if opAt code i == 221 then getG G i else (getG G i).map (lendT code cs ls G i))) (by
      rw [List.map_map, show ((fun p : Int × List Int => p.1) ∘ fun i => (i, if opAt code i == 221 then getG G i else (getG G i).map (lendT code cs ls G i))) = id from rfl, List.map_id]; exact hnew)
    have hlen : ((ls.take k).map fun i => (i, if opAt code i == 221 then getG G i else (getG G i).map (lendT code cs ls G i))).length ≤ 2000 := by rw [List.length_map, List.length_take]; omega
    rw [ht, List.map_append]
    rw [hKV] at h1
    generalize hH : ((ls.take k).map fun i => (i, if opAt code i == 221 then getG G i else (getG G i).map (lendT code cs ls G i))) = H at h1 hst hlen ⊢
    have hlen' : (H.map fun p => ((PyData.int p.1, PyData.list (il p.2)) : PyData × PyData)).length ≤ 2000 := by rw [List.length_map]; exact hlen
    cases h221 : (r.op == 221) with
    | true =>
      refine go_nxt (eif_t rfl (by exact (t_cmp (v_sub rfl (b_else rfl (v_sub rfl (b_name (set_ne rfl h2)) (v_name set_eq) hidx)) v_int i0) (h_one (b_else rfl v_int) (m_eq h221)))) (exs_nxt (by exact (x_key rfl (set_ne rfl h1) (v_sub rfl (b_name (set_ne rfl h5)) (v_name set_eq) ig) (v_name set_eq) hlen' (hst _))) exs_nil)) (go_nil ⟨?_, ?_, ?_, ?_, ?_, ?_, ?_, ?_, ?_⟩)
      · exact Eq.trans set_eq (by simp only [List.length_cons, List.length_nil, if_true, if_false, reduceIte, reduceCtorEq, Option.map_some, Option.map_none, Int.reduceLE, Int.reduceLT, Int.reduceToNat, List.getElem?_cons_zero, List.getElem?_cons_succ, cmp1i, cmp1in, Bool.false_eq_true, or_false, or_true, true_or, false_or, beq_self_eq_true, Nat.reduceAdd, decide_true, decide_false, binop_add, binop_sub, Bool.and_true, Bool.true_and, Bool.and_false, Bool.false_and, Bool.or_false, Bool.or_true, Bool.true_or, Bool.false_or, List.isEmpty_cons, List.isEmpty_nil, Bool.not_true, Bool.not_false, and_true, true_and, and_self, ne_eq, not_false_eq_true, List.length_map, cmpint, gd, hop, h221, List.map_append, List.map_cons, List.map_nil])
      all_goals (first | exact (set_ne rfl (set_ne rfl h2)) | exact (set_ne rfl (set_ne rfl h3)) | exact (set_ne rfl (set_ne rfl h4)) | exact (set_ne rfl (set_ne rfl h5)) | exact (set_ne rfl (set_ne rfl h6)) | exact (set_ne rfl (set_ne rfl h7)) | exact (set_ne rfl (set_ne rfl h8)) | exact (set_ne rfl (set_ne rfl h9)))
    | false =>
      have hop' : (opAt code a == 221) = false := by rw [hop]; exact h221
      refine go_nxt (Γ' := (Γ.set "i" (.int a) false).set "out" (.dict ((H.map fun p => ((PyData.int p.1, PyData.list (il p.2)) : PyData × PyData)) ++ [(.int a, .list (il ((getG G a).map (lendT code cs ls G a))))])) true) (eif_f rfl (by exact (t_cmp (v_sub rfl (b_else rfl (v_sub rfl (b_name (set_ne rfl h2)) (v_name set_eq) hidx)) v_int i0) (h_one (b_else rfl v_int) (m_eq h221)))) (exs_nxt ?_ exs_nil)) (go_nil ⟨?_, ?_, ?_, ?_, ?_, ?_, ?_, ?_, ?_⟩)
      · refine (x_key rfl (set_ne rfl h1) (v_comp ?_) (v_name set_eq) hlen' (hst _))
        refine evComp_ok (items := il (getG G a)) (ds := il ((getG G a).map (lendT code cs ls G a))) rfl (by exact Eq.trans rfl (by simp only [set_app, freeze_nil, freeze_app, emp_app, evName, ofStr_inj, ofStr_beq, List.lookup_cons, List.lookup_nil, List.length_cons, List.length_nil, if_true, if_false, reduceIte, reduceCtorEq, Res.bind_ok, Res.bind_exc, Res.guard_true, Out.of_ok, Out.of_exc, Option.map_some, Option.map_none, String.reduceEq, String.reduceBEq, Nat.reduceEqDiff, Int.reduceLE, Int.reduceLT, Int.reduceToNat, List.getElem?_cons_zero, List.getElem?_cons_succ, cmp1i, cmp1in, Bool.false_eq_true, List.mem_cons, List.not_mem_nil, or_false, or_true, true_or, false_or, beq_self_eq_true, szMax, Nat.reduceAdd, Nat.reduceLeDiff, decide_true, decide_false, truth, binop_add, binop_sub, notStar, isComp, loose, List.all_cons, List.all_nil, Bool.and_true, Bool.true_and, Bool.and_false, Bool.false_and, Bool.or_false, Bool.or_true, Bool.true_or, Bool.false_or, List.isEmpty_cons, List.isEmpty_nil, Bool.not_true, Bool.not_false, builtinNames, and_true, true_and, and_self, orAnd, andAnd, globB, ne_eq, not_false_eq_true, List.length_map, cmpint, idx_tup, freeOk, h2, h4, h5, h6, Option.isSome_some]; rfl)) ⟨rfl, rfl, rfl⟩ (by exact (i_else rfl (v_sub rfl (b_name (set_ne rfl h5)) (v_name set_eq) ig) rfl)) (by simp [il]; have := hGl a ha; omega) ?_
        · have hf : il ((getG G a).map (lendT code cs ls G a)) = (il (getG G a)).map (fun d => match d with | .int g => .int (lendT code cs ls G a g) | d => d) := by
            simp [il, List.map_map]
          rw [hf]
          refine compL_map _ _ fun d hd' => ?_
          obtain ⟨g, hg, rfl⟩ := List.mem_map.mp hd'
          have hφ := hφe a ha hop' g hg
          exact ⟨rfl, by exact (v_call (set_ne rfl (on_out rfl)) rfl (c_fun he rfl (s_cons (v_name (set_ne rfl (on_in rfl (set_ne rfl h2)))) (s_cons (v_name (set_ne rfl (on_in rfl (set_ne rfl h6)))) (s_cons (v_name (set_ne rfl (on_in rfl (set_ne rfl h4)))) (s_cons (v_name (set_ne rfl (on_in rfl (set_ne rfl h5)))) (s_cons (v_name (set_ne rfl (on_in rfl set_eq))) (s_cons (v_name set_eq) s_nil)))))) hφ))⟩
      · exact Eq.trans set_eq (by simp only [List.length_cons, List.length_nil, if_true, if_false, reduceIte, reduceCtorEq, Option.map_some, Option.map_none, Int.reduceLE, Int.reduceLT, Int.reduceToNat, List.getElem?_cons_zero, List.getElem?_cons_succ, cmp1i, cmp1in, Bool.false_eq_true, or_false, or_true, true_or, false_or, beq_self_eq_true, Nat.reduceAdd, decide_true, decide_false, binop_add, binop_sub, Bool.and_true, Bool.true_and, Bool.and_false, Bool.false_and, Bool.or_false, Bool.or_true, Bool.true_or, Bool.false_or, List.isEmpty_cons, List.isEmpty_nil, Bool.not_true, Bool.not_false, and_true, true_and, and_self, ne_eq, not_false_eq_true, List.length_map, cmpint, gd, hop, h221, List.map_append, List.map_cons, List.map_nil])
      all_goals (first | exact (set_ne rfl (set_ne rfl h2)) | exact (set_ne rfl (set_ne rfl h3)) | exact (set_ne rfl (set_ne rfl h4)) | exact (set_ne rfl (set_ne rfl h5)) | exact (set_ne rfl (set_ne rfl h6)) | exact (set_ne rfl (set_ne rfl h7)) | exact (set_ne rfl (set_ne rfl h8)) | exact (set_ne rfl (set_ne rfl h9)))
  · rw [show (il ls).length = ls.length by simp [il], List.take_length] at h1
    have h1 : Γ "out" = some (gd (outG code cs ls G), true) := h1
    have hO : ∀ a ∈ ls, lookG (outG code cs ls G) a = some (getG (outG code cs ls G) a) := fun a ha => by
      have := lookG_map (f := fun i => if opAt code i == 221 then getG G i else (getG G i).map (lendT code cs ls G i)) ha
      unfold getG at this ⊢
      unfold outG
      unfold getG
      rw [this]; rfl
    have hO56 : ∀ a ∈ ls, opAt code a = 56 → ∃ g gs, getG (outG code cs ls G) a = g :: gs := fun a ha h56 => by
      have := lookG_map (f := fun i => if opAt code i == 221 then getG G i else (getG G i).map (lendT code cs ls G i)) ha
      have h2 : getG (outG code cs ls G) a = (getG G a).map (lendT code cs ls G a) := by
        show (lookG (outG code cs ls G) a).getD [] = _
        unfold outG
        rw [this, h56]; rfl
      rw [h2]
      cases hg : getG G a with
      | nil => exact absurd hg (hG56 a ha h56)
      | cons g gs => exact ⟨_, _, rfl⟩
    generalize outG code cs ls G = O at h1 hO hO56 ⊢
    refine exs_nxt (by exact (x_set rfl rfl rfl (v_call h8 rfl (c_fun hd rfl (s_cons (v_name h3) s_nil) hφd)))) ?_
    refine exs_nxt (by exact (x_set0 rfl rfl)) ?_
    refine xfor (ds := il ls) (fun k Γ => Γ "stay" = some (.list (il ((ls.take k).filter (stayB code cs ls O))), true) ∧ Γ "out" = some (gd O, true) ∧ Γ "code" = some (rws code, false) ∧ Γ "live" = some (.list (il ls), false) ∧ Γ "edges" = some (.list (il (allEdges cs)), false) ∧ Γ "_law_behind" = none) rfl rfl (by exact (o_name (set_ne rfl (set_ne rfl h4)) rfl))
      ⟨by exact Eq.trans set_eq rfl, by exact (set_ne rfl (set_ne rfl h1)), by exact (set_ne rfl (set_ne rfl h2)), by exact (set_ne rfl (set_ne rfl h4)), by exact (set_ne rfl set_eq), by exact (set_ne rfl (set_ne rfl h9))⟩ (fun k d Γ hk ⟨g1, g2, g3, g4, g5, g6⟩ => ?_) fun Γ ⟨g1, g2, g3, g4, g5, g6⟩ => ?_
    · have hkl := getE hk
      rw [show (il ls)[k]? = (ls[k]?).map .int by simp [il]] at hk
      obtain ⟨a, hka, rfl⟩ := Option.map_eq_some_iff.mp hk
      have ha := List.mem_of_getElem? hka
      obtain ⟨r, hr, hidx, hop⟩ := rowAt (hls a ha)
      have i0 := idx_row0 r
      have ig := idx_gd (hO a ha)
      have ht : ls.take (k + 1) = ls.take k ++ [a] := by rw [List.take_add_one, hka]; rfl
      have m1 := memD_il (g := a) (l := allEdges cs)
      have m2 := memD_il (g := behindI ls (a + 1)) (l := allEdges cs)
      refine go_nxt (by exact (x_set rfl rfl rfl (v_call (set_ne rfl g6) rfl (c_fun hb rfl (s_cons (v_name (set_ne rfl g4)) (s_cons (v_bin (v_name set_eq) v_int rfl) s_nil)) (hφb _))))) ?_
      refine go_if_app (c := stayB code cs ls O a) (ds := il ((ls.take k).filter (stayB code cs ls O))) (d := .int a) rfl rfl ?_ (by exact (set_ne rfl (set_ne rfl g1))) ⟨rfl, rfl, rfl, rfl⟩ ?_ (fun _ => by exact (v_name (set_ne rfl set_eq))) fun Γ1 a1 a2 => go_nil ⟨?_, ?_, ?_, ?_, ?_, ?_⟩
      · cases h56 : (r.op == 56) with
        | false =>
          have e : stayB code cs ls O a = true := by unfold stayB; rw [hop, h56]; rfl
          exact Eq.trans (t_all (a_or (t_cmp (v_sub rfl (b_else rfl (v_sub rfl (b_name (set_ne rfl (set_ne rfl g3))) (v_name (set_ne rfl set_eq)) hidx)) v_int i0) (h_one (b_else rfl v_int) (m_ne h56))) (or_t (nt_t rfl)))) (by simp only [List.length_cons, List.length_nil, if_true, if_false, reduceIte, reduceCtorEq, Option.map_some, Option.map_none, Int.reduceLE, Int.reduceLT, Int.reduceToNat, List.getElem?_cons_zero, List.getElem?_cons_succ, cmp1i, cmp1in, Bool.false_eq_true, or_false, or_true, true_or, false_or, beq_self_eq_true, Nat.reduceAdd, decide_true, decide_false, binop_add, binop_sub, Bool.and_true, Bool.true_and, Bool.and_false, Bool.false_and, Bool.or_false, Bool.or_true, Bool.true_or, Bool.false_or, List.isEmpty_cons, List.isEmpty_nil, Bool.not_true, Bool.not_false, and_true, true_and, and_self, ne_eq, not_false_eq_true, List.length_map, cmpint, g3, hidx, i0, cmpne, bne, h56, e])
        | true =>
          obtain ⟨g, gs, hgg⟩ := hO56 a ha (by rw [hop]; simpa using h56)
          have ih : index (.list (il (g :: gs))) (.int 0) = .ok (.int g) := rfl
          rw [hgg] at ig
          cases hbe : (g == behindI ls (a + 1)) with
          | false =>
            have e : stayB code cs ls O a = true := by unfold stayB; rw [hop, h56, hgg, List.headD_cons, hbe]; rfl
            exact Eq.trans (t_all (a_or (t_cmp (v_sub rfl (b_else rfl (v_sub rfl (b_name (set_ne rfl (set_ne rfl g3))) (v_name (set_ne rfl set_eq)) hidx)) v_int i0) (h_one (b_else rfl v_int) (m_ne h56))) (or_f (nt_f rfl) (a_or (t_cmp (v_sub rfl (b_else rfl (v_sub rfl (b_name (set_ne rfl (set_ne rfl g2))) (v_name (set_ne rfl set_eq)) ig)) v_int ih) (h_one (b_name set_eq) (m_ne hbe))) (or_t (nt_t rfl)))))) (by simp only [List.length_cons, List.length_nil, if_true, if_false, reduceIte, reduceCtorEq, Option.map_some, Option.map_none, Int.reduceLE, Int.reduceLT, Int.reduceToNat, List.getElem?_cons_zero, List.getElem?_cons_succ, cmp1i, cmp1in, Bool.false_eq_true, or_false, or_true, true_or, false_or, beq_self_eq_true, Nat.reduceAdd, decide_true, decide_false, binop_add, binop_sub, Bool.and_true, Bool.true_and, Bool.and_false, Bool.false_and, Bool.or_false, Bool.or_true, Bool.true_or, Bool.false_or, List.isEmpty_cons, List.isEmpty_nil, Bool.not_true, Bool.not_false, and_true, true_and, and_self, ne_eq, not_false_eq_true, List.length_map, cmpint, g2, g3, hidx, i0, cmpne, bne, h56, ig, ih, hbe, e])
          | true =>
            have e : stayB code cs ls O a = ((allEdges cs).contains a || (allEdges cs).contains (behindI ls (a + 1))) := by unfold stayB; rw [hop, h56, hgg, List.headD_cons, hbe]; rfl
            rw [e]
            cases c1 : (allEdges cs).contains a with
            | true => rw [c1] at m1; exact Eq.trans (t_all (a_or (t_cmp (v_sub rfl (b_else rfl (v_sub rfl (b_name (set_ne rfl (set_ne rfl g3))) (v_name (set_ne rfl set_eq)) hidx)) v_int i0) (h_one (b_else rfl v_int) (m_ne h56))) (or_f (nt_f rfl) (a_or (t_cmp (v_sub rfl (b_else rfl (v_sub rfl (b_name (set_ne rfl (set_ne rfl g2))) (v_name (set_ne rfl set_eq)) ig)) v_int ih) (h_one (b_name set_eq) (m_ne hbe))) (or_f (nt_f rfl) (a_or (t_cmp (v_name (set_ne rfl set_eq)) (h_one (b_name (set_ne rfl (set_ne rfl g5))) (m_inl m1))) (or_t rfl))))))) (by simp only [List.length_cons, List.length_nil, if_true, if_false, reduceIte, reduceCtorEq, Option.map_some, Option.map_none, Int.reduceLE, Int.reduceLT, Int.reduceToNat, List.getElem?_cons_zero, List.getElem?_cons_succ, cmp1i, cmp1in, Bool.false_eq_true, or_false, or_true, true_or, false_or, beq_self_eq_true, Nat.reduceAdd, decide_true, decide_false, binop_add, binop_sub, Bool.and_true, Bool.true_and, Bool.and_false, Bool.false_and, Bool.or_false, Bool.or_true, Bool.true_or, Bool.false_or, List.isEmpty_cons, List.isEmpty_nil, Bool.not_true, Bool.not_false, and_true, true_and, and_self, ne_eq, not_false_eq_true, List.length_map, cmpint, g2, g3, g5, hidx, i0, cmpne, bne, h56, ig, ih, hbe, m1])
            | false =>
              rw [c1] at m1
              cases c2 : (allEdges cs).contains (behindI ls (a + 1)) with
              | true => rw [c2] at m2; exact Eq.trans (t_all (a_or (t_cmp (v_sub rfl (b_else rfl (v_sub rfl (b_name (set_ne rfl (set_ne rfl g3))) (v_name (set_ne rfl set_eq)) hidx)) v_int i0) (h_one (b_else rfl v_int) (m_ne h56))) (or_f (nt_f rfl) (a_or (t_cmp (v_sub rfl (b_else rfl (v_sub rfl (b_name (set_ne rfl (set_ne rfl g2))) (v_name (set_ne rfl set_eq)) ig)) v_int ih) (h_one (b_name set_eq) (m_ne hbe))) (or_f (nt_f rfl) (a_or (t_cmp (v_name (set_ne rfl set_eq)) (h_one (b_name (set_ne rfl (set_ne rfl g5))) (m_inl m1))) (or_f rfl (a_or (t_cmp (v_name set_eq) (h_one (b_name (set_ne rfl (set_ne rfl g5))) (m_inl m2))) (or_t rfl))))))))) (by simp only [List.length_cons, List.length_nil, if_true, if_false, reduceIte, reduceCtorEq, Option.map_some, Option.map_none, Int.reduceLE, Int.reduceLT, Int.reduceToNat, List.getElem?_cons_zero, List.getElem?_cons_succ, cmp1i, cmp1in, Bool.false_eq_true, or_false, or_true, true_or, false_or, beq_self_eq_true, Nat.reduceAdd, decide_true, decide_false, binop_add, binop_sub, Bool.and_true, Bool.true_and, Bool.and_false, Bool.false_and, Bool.or_false, Bool.or_true, Bool.true_or, Bool.false_or, List.isEmpty_cons, List.isEmpty_nil, Bool.not_true, Bool.not_false, and_true, true_and, and_self, ne_eq, not_false_eq_true, List.length_map, cmpint, g2, g3, g5, hidx, i0, cmpne, bne, h56, ig, ih, hbe, m1, m2])
              | false => rw [c2] at m2; exact Eq.trans (t_all (a_or (t_cmp (v_sub rfl (b_else rfl (v_sub rfl (b_name (set_ne rfl (set_ne rfl g3))) (v_name (set_ne rfl set_eq)) hidx)) v_int i0) (h_one (b_else rfl v_int) (m_ne h56))) (or_f (nt_f rfl) (a_or (t_cmp (v_sub rfl (b_else rfl (v_sub rfl (b_name (set_ne rfl (set_ne rfl g2))) (v_name (set_ne rfl set_eq)) ig)) v_int ih) (h_one (b_name set_eq) (m_ne hbe))) (or_f (nt_f rfl) (a_or (t_cmp (v_name (set_ne rfl set_eq)) (h_one (b_name (set_ne rfl (set_ne rfl g5))) (m_inl m1))) (or_f rfl (a_or (t_cmp (v_name set_eq) (h_one (b_name (set_ne rfl (set_ne rfl g5))) (m_inl m2))) (or_f rfl a_nilo))))))))) (by simp only [List.length_cons, List.length_nil, if_true, if_false, reduceIte, reduceCtorEq, Option.map_some, Option.map_none, Int.reduceLE, Int.reduceLT, Int.reduceToNat, List.getElem?_cons_zero, List.getElem?_cons_succ, cmp1i, cmp1in, Bool.false_eq_true, or_false, or_true, true_or, false_or, beq_self_eq_true, Nat.reduceAdd, decide_true, decide_false, binop_add, binop_sub, Bool.and_true, Bool.true_and, Bool.and_false, Bool.false_and, Bool.or_false, Bool.or_true, Bool.true_or, Bool.false_or, List.isEmpty_cons, List.isEmpty_nil, Bool.not_true, Bool.not_false, and_true, true_and, and_self, ne_eq, not_false_eq_true, List.length_map, cmpint, g2, g3, g5, hidx, i0, cmpne, bne, h56, ig, ih, hbe, m1, m2])
      · rw [show ∀ l : List Int, (il l).length = l.length from fun l => by simp [il]]
        refine Nat.le_trans (List.length_filter_le _ _) ?_
        rw [List.length_take]; omega
      · rw [a1, ht, List.filter_append]
        cases hsb : stayB code cs ls O a with
        | false => simp [il, hsb]
        | true => simp [il, hsb]
      all_goals (first | exact (al a2 rfl (set_ne rfl (set_ne rfl g2))) | exact (al a2 rfl (set_ne rfl (set_ne rfl g3))) | exact (al a2 rfl (set_ne rfl (set_ne rfl g4))) | exact (al a2 rfl (set_ne rfl (set_ne rfl g5))) | exact (al a2 rfl (set_ne rfl (set_ne rfl g6))))
    · rw [show (il ls).length = ls.length by simp [il], List.take_length] at g1
      refine exs_ret ?_
      exact (x_retz rfl (v_tup (s_cons (v_name (fr_in rfl g1)) (s_cons (v_name (fr_in rfl g2)) s_nil)) rfl))
end
end
section
set_option maxRecDepth 100000
set_option linter.unusedVariables false
set_option linter.unusedSimpArgs false

noncomputable def lloop (code : List Row) (cs : List Cl) : Nat → List Int → List Int → List (Int × List Int) → List Int × List (Int × List Int)
  | 0, ls, _, G => (ls, G)
  | k + 1, ls, stay, G => if stay.length < ls.length then lloop code cs k stay (stayL code cs stay (outG code cs stay G)) (outG code cs stay G) else (ls, G)
noncomputable def posI (ls : List Int) (g : Int) : Int := (((ls.filter fun n => decide (n < g)).length : Nat) : Int)
noncomputable def rowL (code : List Row) (ls : List Int) (G : List (Int × List Int)) (i : Int) : Row := match code[i.toNat]? with
  | some (.sw _) => .sw ((getG G i).map (posI ls))
  | some (.pl op n) => .pl op (match getG G i with | [] => n | g :: _ => posI ls g)
  | none => .pl 0 0
noncomputable def clL (ls : List Int) (c : Cl) : Cl := ⟨c.s, posI ls c.a, posI ls c.b, posI ls c.c, posI ls c.d, if c.s == 1 then posI ls c.e else c.e⟩
noncomputable def lawT (code : List Row) (cs : List Cl) : List Row × List Cl :=
  let ls := (List.range code.length).map Int.ofNat
  let G := ls.map fun i => (i, match code[i.toNat]? with | some r => goalsR r | none => [])
  let O := outG code cs ls G
  let p := lloop code cs turns ls (stayL code cs ls O) O
  (p.1.map (rowL code p.1 p.2), cs.map (clL p.1))

noncomputable def goals0 (code : List Row) (i : Int) : List Int := match code[i.toNat]? with | some r => goalsR r | none => []
section
variable {T : Tab} {fz : Nat → List Str} {n : Nat} {sc : Scope} {Γ : Vars} {x : Str} {xp p1 p2 p3 p4 pos : Pos} {a f : Expr} {args : List Expr} {d : PyData} {k : Nat}
theorem ev_list_range (hk : k ≤ 1000) (h1 : Γ "list" = none) (h2 : isGlob sc "list" = true) (h3 : Γ "range" = none) (h4 : isGlob sc "range" = true) (he : ev T n sc Γ a = .ok (.int k)) :
    ev T (n + 3) sc Γ (.Call (.Name "list" p1) [.Call (.Name "range" p2) [a] [] p3] [] p4) = .ok (.list (rangeD k)) := by
  have hi := evIter_rangeN (p := p2) (pos := p3) hk h3 h4 he
  exact v_call h1 h2 (c_list rfl hi)
theorem eassign_call (hz : fz pos.line = []) (hx : storable sc x = true) (h : ev T n sc Γ (.Call f args [] p1) = .ok d) : ex T fz (n + 1) sc Γ (.Assign [.Name x xp] (.Call f args [] p1) pos) = .nxt (Γ.set x d false) := by
  exact x_set hz hx rfl h
end
end
section
set_option maxRecDepth 100000
set_option linter.unusedVariables false
set_option linter.unusedSimpArgs false

theorem ecomp_own {T : Tab} {fz : Nat → List Str} {n : Nat} {sc csc : Scope} {Γ : Vars} {x : Str} {xp cp pos : Pos} {elt : Expr} {gens : List Comprehension} {ds : List PyData} (hz : fz pos.line = []) (hx : storable sc x = true) (hxl : sc.names.lookup x = some .local) (hl : xp.line = cp.line)
    (hn : (csc.names.any fun (n, k) => n == x && (k == .local || k == .cell)) = false) (he : evComp T n sc Γ elt gens csc = .ok ds) : ex T fz (n + 1) sc Γ (.Assign [.Name x xp] (.ListComp elt gens csc cp) pos) = .nxt (Γ.set x (.list ds) true) := by
  exact x_comp hz hx (by rw [hxl]; rfl) (by rw [hl, hn]; simp) he
section
variable (T : Tab) (φg φr : List PyData → Res PyData) (code : List Row) (cs : List Cl) (P : List Int → List (Int × List Int) → Prop)
theorem sem_law_threaded (hg : T.funs "_law_goals" = some φg) (hr : T.funs "_law_round" = some φr) (hφg : ∀ r ∈ code, φg [row r] = .ok (.list (il (goalsR r)))) (hm : code.length ≤ 90) (hwf : ∀ r ∈ code, r.wf) (hcl : cs.length ≤ 90)
    (hφr : ∀ ls G, P ls G → φr [rws code, cls cs, .list (il ls), gd G] = .ok (.tuple [.list (il (stayL code cs ls (outG code cs ls G))), gd (outG code cs ls G)]))
    (hP0 : P ((List.range code.length).map Int.ofNat) (((List.range code.length).map Int.ofNat).map fun i => (i, goals0 code i))) (hPn : ∀ ls G, P ls G → P (stayL code cs ls (outG code cs ls G)) (outG code cs ls G)) (W : List Int → List (Int × List Int) → Prop) (hPW : ∀ ls G, P ls G → W ls (outG code cs ls G))
    (hW : ∀ ls G, W ls G → ls.length ≤ 90 ∧ ∀ a ∈ ls, okG code.length a = true ∧ lookG G a = some (getG G a) ∧ (getG G a).length ≤ 90) :
    runDef T frz fuel F_law_threaded.1.scope ["code", "clauses"] (bodyOf F_law_threaded.1) [rws code, cls cs] = .ok (pairD (lawT code cs)) := by
  refine run_ret rfl ?_
  simp only [F_law_threaded, bodyOf, fuel, bindV_cons, bindV_nil, isGlob]
  have hr0 : rangeD code.length = il ((List.range code.length).map Int.ofNat) := by unfold rangeD il; rw [Int.toNat_natCast, List.map_map]; rfl
  have hnd : ((List.range code.length).map Int.ofNat).Nodup := by
    refine List.Pairwise.map _ (fun a b h q => h (Int.ofNat.inj q)) List.nodup_range
  generalize hls : (List.range code.length).map Int.ofNat = ls0 at hP0 hr0 hnd
  have hin : ∀ a ∈ ls0, okG code.length a = true := fun a ha => by
    rw [← hls] at ha
    obtain ⟨j, hj, rfl⟩ := List.mem_map.mp ha
    exact okG_iff.mpr ⟨by simp, by have := List.mem_range.mp hj; simp; omega⟩
  have hl0 : ls0.length ≤ 90 := by rw [← hls]; simp; omega
  refine exs_nxt (eassign_call (d := .list (il ls0)) rfl rfl (hr0 ▸ ev_list_range (k := code.length) (by omega) (by exact (set_ne rfl (set_ne rfl emp_eq))) rfl (by exact (set_ne rfl (set_ne rfl emp_eq))) rfl (by exact (v_call (set_ne rfl (set_ne rfl emp_eq)) rfl (c_len rfl (b_name set_eq) u_lenr))))) ?_
  refine exs_nxt (by exact (x_setd rfl rfl)) ?_
  refine xfor (ds := il ls0) (fun k Γ => Γ "goals" = some (gd ((ls0.take k).map fun i => (i, goals0 code i)), true) ∧ Γ "code" = some (rws code, false) ∧ Γ "clauses" = some (cls cs, false) ∧ Γ "live" = some (.list (il ls0), false) ∧ Γ "_law_goals" = none ∧ Γ "_law_round" = none ∧ Γ "len" = none ∧ Γ "tuple" = none) rfl rfl (by exact (o_name (set_ne rfl set_eq) rfl))
    ⟨by exact Eq.trans set_eq rfl, by exact (set_ne rfl (set_ne rfl set_eq)), by exact (set_ne rfl (set_ne rfl (set_ne rfl set_eq))), by exact (set_ne rfl set_eq), by exact (set_ne rfl (set_ne rfl (set_ne rfl (set_ne rfl emp_eq)))), by exact (set_ne rfl (set_ne rfl (set_ne rfl (set_ne rfl emp_eq)))), by exact (set_ne rfl (set_ne rfl (set_ne rfl (set_ne rfl emp_eq)))), by exact (set_ne rfl (set_ne rfl (set_ne rfl (set_ne rfl emp_eq))))⟩ (fun k d Γ hk ⟨h1, h2, h3, h4, h5, h6, h7, h8⟩ => ?_) fun Γ ⟨h1, h2, h3, h4, h5, h6, h7, h8⟩ => ?_
  · have hkl := getE hk
    rw [show (il ls0)[k]? = (ls0[k]?).map .int by simp [il]] at hk
    obtain ⟨a, hka, rfl⟩ := Option.map_eq_some_iff.mp hk
    have ha := List.mem_of_getElem? hka
    obtain ⟨r, hr', hidx, hop⟩ := rowAt (hin a ha)
    have hφ := hφg r (List.mem_of_getElem? hr')
    have h0 : goals0 code a = goalsR r := by unfold goals0; rw [hr']
    have ht : ls0.take (k + 1) = ls0.take k ++ [a] := by rw [List.take_add_one, hka]; rfl
    have hnew : a ∉ ls0.take k := by
      intro hin'
      have := hnd
      rw [← List.take_append_drop (k + 1) ls0, ht, List.append_assoc] at this
      exact (List.nodup_append.mp this).2.2 a hin' a (by simp) rfl
    have hst := storeKV_new (k := a) (d := .list (il (goalsR r))) (G := (ls0.take k).map fun i => (i, goals0 code i)) (by
      rw [List.map_map, show ((fun p : Int × List Int => p.1) ∘ fun i => (i, goals0 code i)) = id from rfl, List.map_id]; exact hnew)
    have hlen : (((ls0.take k).map fun i => (i, goals0 code i)).map fun p => ((PyData.int p.1, PyData.list (il p.2)) : PyData × PyData)).length ≤ 2000 := by rw [List.length_map, List.length_map, List.length_take]; omega
    rw [ht, List.map_append]
    generalize ((ls0.take k).map fun i => (i, goals0 code i)) = H at h1 hst hlen ⊢
    have h1 : Γ "goals" = some (.dict (H.map fun p => ((PyData.int p.1, PyData.list (il p.2)) : PyData × PyData)), true) := h1
    refine go_nxt (by exact (x_key rfl (set_ne rfl h1) (v_call (set_ne rfl h5) rfl (c_fun hg rfl (s_cons (v_sub rfl (b_name (set_ne rfl h2)) (v_name set_eq) hidx) s_nil) hφ)) (v_name set_eq) hlen hst)) (go_nil ⟨?_, ?_, ?_, ?_, ?_, ?_, ?_, ?_⟩)
    · exact Eq.trans set_eq (by simp only [List.length_cons, List.length_nil, if_true, if_false, reduceIte, reduceCtorEq, Option.map_some, Option.map_none, Int.reduceLE, Int.reduceLT, Int.reduceToNat, List.getElem?_cons_zero, List.getElem?_cons_succ, cmp1i, cmp1in, Bool.false_eq_true, or_false, or_true, true_or, false_or, beq_self_eq_true, Nat.reduceAdd, decide_true, decide_false, binop_add, binop_sub, Bool.and_true, Bool.true_and, Bool.and_false, Bool.false_and, Bool.or_false, Bool.or_true, Bool.true_or, Bool.false_or, List.isEmpty_cons, List.isEmpty_nil, Bool.not_true, Bool.not_false, and_true, true_and, and_self, ne_eq, not_false_eq_true, List.length_map, cmpint, gd, h0, List.map_append, List.map_cons, List.map_nil])
    all_goals (first | exact (set_ne rfl (set_ne rfl h2)) | exact (set_ne rfl (set_ne rfl h3)) | exact (set_ne rfl (set_ne rfl h4)) | exact (set_ne rfl (set_ne rfl h5)) | exact (set_ne rfl (set_ne rfl h6)) | exact (set_ne rfl (set_ne rfl h7)) | exact (set_ne rfl (set_ne rfl h8)))
  · rw [show (il ls0).length = ls0.length by simp [il], List.take_length] at h1
    have h1 : Γ "goals" = some (gd (ls0.map fun i => (i, goals0 code i)), true) := h1
    have hφ0 := hφr _ _ hP0
    have hP1 := hPn _ _ hP0
    have hW1 := hPW _ _ hP0
    have hlaw : lawT code cs = (let p := lloop code cs turns ls0 (stayL code cs ls0 (outG code cs ls0 (ls0.map fun i => (i, goals0 code i)))) (outG code cs ls0 (ls0.map fun i => (i, goals0 code i))); (p.1.map (rowL code p.1 p.2), cs.map (clL p.1))) := by
      rw [← hls]; rfl
    rw [hlaw]
    generalize hO : outG code cs ls0 (ls0.map fun i => (i, goals0 code i)) = O at hφ0 hP1 hW1 ⊢
    generalize hS : stayL code cs ls0 O = S at hφ0 hP1 ⊢
    refine exs_nxt (Γ' := ((Γ.freeze ["goals"]).set "stay" (.list (il S)) false).set "goals" (gd O) false) (by exact (x_twoz rfl rfl (v_call (fr_none h6) rfl (c_fun hr rfl (s_cons (v_name (fr_out rfl h2)) (s_cons (v_name (fr_out rfl h3)) (s_cons (v_name (fr_out rfl h4)) (s_cons (v_name (fr_in rfl h1)) s_nil)))) hφ0)))) ?_
    generalize hRR : lloop code cs turns ls0 S O = RR
    refine xwhile (fun k Γ => ∃ ls stay G, Γ "live" = some (.list (il ls), false) ∧ Γ "stay" = some (.list (il stay), false) ∧ Γ "goals" = some (gd G, false) ∧ Γ "code" = some (rws code, false) ∧ Γ "clauses" = some (cls cs, false) ∧ Γ "_law_round" = none ∧ Γ "len" = none ∧ Γ "tuple" = none ∧
        P stay G ∧ W ls G ∧ lloop code cs k ls stay G = RR ∧ ls.length + 2 ≤ k)
      (fun o' => ∃ Γ', o' = .nxt Γ' ∧ Γ' "live" = some (.list (il RR.1), false) ∧ Γ' "goals" = some (gd RR.2, false) ∧ Γ' "code" = some (rws code, false) ∧ Γ' "clauses" = some (cls cs, false) ∧ Γ' "len" = none ∧ Γ' "tuple" = none ∧ W RR.1 RR.2) rfl
      ⟨ls0, S, O, by exact (set_ne rfl (set_ne rfl (fr_out rfl h4))), by exact (set_ne rfl set_eq), by exact set_eq, by exact (set_ne rfl (set_ne rfl (fr_out rfl h2))), by exact (set_ne rfl (set_ne rfl (fr_out rfl h3))), by exact (set_ne rfl (set_ne rfl (fr_none h6))), by exact (set_ne rfl (set_ne rfl (fr_none h7))), by exact (set_ne rfl (set_ne rfl (fr_none h8))), hP1, hW1, hRR, by unfold turns; omega⟩
      (fun Γ h => ?_) (fun k Γ h => ?_) (fun o' h => ?_)
    · obtain ⟨_, _, _, _, _, _, _, _, _, _, _, _, _, _, h⟩ := h
      omega
    · obtain ⟨ls, stay, G, g1, g2, g3, g4, g5, g6, g7, g8, hp, hw, hl, hk⟩ := h
      have hlen : ∀ l : List Int, (il l).length = l.length := fun l => by simp [il]
      unfold lloop at hl
      by_cases q : stay.length < ls.length
      · right
        rw [if_pos q] at hl
        have ht : decide ((stay.length : Int) < (ls.length : Int)) = true := by simpa using q
        refine ⟨by exact (t_cmp (v_call g7 rfl (c_len rfl (b_name g2) u_lenm)) (h_one (b_else rfl (v_call g7 rfl (c_len rfl (b_name g1) u_lenm))) (m_lt ht))), .inl ?_⟩
        have hφ := hφr _ _ hp
        have hp' := hPn _ _ hp
        have hw' := hPW _ _ hp
        refine go_nxt (by exact (x_set rfl rfl rfl (v_name g2))) (go_nxt (by exact (x_two rfl rfl (v_call (set_ne rfl g6) rfl (c_fun hr rfl (s_cons (v_name (set_ne rfl g4)) (s_cons (v_name (set_ne rfl g5)) (s_cons (v_name set_eq) (s_cons (v_name (set_ne rfl g3)) s_nil)))) hφ)))) (go_nil ?_))
        exact ⟨stay, _, _, by exact (set_ne rfl (set_ne rfl set_eq)), by exact (set_ne rfl set_eq), by exact set_eq, by exact (set_ne rfl (set_ne rfl (set_ne rfl g4))), by exact (set_ne rfl (set_ne rfl (set_ne rfl g5))), by exact (set_ne rfl (set_ne rfl (set_ne rfl g6))), by exact (set_ne rfl (set_ne rfl (set_ne rfl g7))), by exact (set_ne rfl (set_ne rfl (set_ne rfl g8))), hp', hw', hl, by omega⟩
      · left
        rw [if_neg q] at hl
        have ht : decide ((stay.length : Int) < (ls.length : Int)) = false := by simpa using q
        subst hl
        exact ⟨by exact (t_cmp (v_call g7 rfl (c_len rfl (b_name g2) u_lenm)) (h_one (b_else rfl (v_call g7 rfl (c_len rfl (b_name g1) u_lenm))) (m_lt ht))), Γ, rfl, g1, g3, g4, g5, g7, g8, hw⟩
    · obtain ⟨Γ', rfl, g1, g2, g3, g4, g5, g6, hw⟩ := h
      show exs _ _ _ _ _ _ = _
      obtain ⟨hl90, hw⟩ := hW _ _ hw
      have pos_read : ∀ l : List Int, (il (l)).length = l.length := fun l => by simp [il]
      refine exs_nxt (by exact (x_set0 rfl rfl)) ?_
      refine xfor_app (out := "rows") (ds := il RR.1) (fun d => match d with | .int i => row (rowL code RR.1 RR.2 i) | d => d) (fun Γ => Γ "live" = some (.list (il RR.1), false) ∧ Γ "goals" = some (gd RR.2, false) ∧ Γ "code" = some (rws code, false) ∧ Γ "clauses" = some (cls cs, false) ∧ Γ "len" = none ∧ Γ "tuple" = none) rfl rfl (by exact (o_name (set_ne rfl g1) rfl))
        (by exact set_eq) ⟨by exact (set_ne rfl g1), by exact (set_ne rfl g2), by exact (set_ne rfl g3), by exact (set_ne rfl g4), by exact (set_ne rfl g5), by exact (set_ne rfl g6)⟩ (fun k d Γ es hk hl h1 ⟨h2, h3, h4, h5, h6, h7⟩ => ?_) fun Γ h1 ⟨h2, h3, h4, h5, h6, h7⟩ => ?_
      · have hkl := getE hk
        rw [show (il RR.1)[k]? = (RR.1[k]?).map .int by simp [il]] at hk
        obtain ⟨a, hka, rfl⟩ := Option.map_eq_some_iff.mp hk
        have ha := List.mem_of_getElem? hka
        obtain ⟨w1, w2, w3⟩ := hw a ha
        obtain ⟨r, hr', hidx, hop⟩ := rowAt w1
        have i0 := idx_row0 r
        have ig := idx_gd w2
        refine go_nxt (ecomp_own (ds := il ((getG RR.2 a).map (posI RR.1))) rfl rfl rfl rfl rfl (evComp_ok (items := il (getG RR.2 a)) rfl (by exact Eq.trans rfl (by simp only [set_app, freeze_nil, freeze_app, emp_app, evName, ofStr_inj, ofStr_beq, List.lookup_cons, List.lookup_nil, List.length_cons, List.length_nil, if_true, if_false, reduceIte, reduceCtorEq, Res.bind_ok, Res.bind_exc, Res.guard_true, Out.of_ok, Out.of_exc, Option.map_some, Option.map_none, String.reduceEq, String.reduceBEq, Nat.reduceEqDiff, Int.reduceLE, Int.reduceLT, Int.reduceToNat, List.getElem?_cons_zero, List.getElem?_cons_succ, cmp1i, cmp1in, Bool.false_eq_true, List.mem_cons, List.not_mem_nil, or_false, or_true, true_or, false_or, beq_self_eq_true, szMax, Nat.reduceAdd, Nat.reduceLeDiff, decide_true, decide_false, truth, binop_add, binop_sub, notStar, isComp, loose, List.all_cons, List.all_nil, Bool.and_true, Bool.true_and, Bool.and_false, Bool.false_and, Bool.or_false, Bool.or_true, Bool.true_or, Bool.false_or, List.isEmpty_cons, List.isEmpty_nil, Bool.not_true, Bool.not_false, builtinNames, and_true, true_and, and_self, orAnd, andAnd, globB, ne_eq, not_false_eq_true, List.length_map, cmpint, idx_tup, freeOk, h2, Option.isSome_some]; rfl)) ⟨rfl, rfl, rfl⟩ (by exact (i_else rfl (v_sub rfl (b_name (set_ne rfl h3)) (v_name set_eq) ig) rfl)) (by simp [il]; omega) ?_)) ?_
        · have hf : il ((getG RR.2 a).map (posI RR.1)) = (il (getG RR.2 a)).map (fun d => match d with | .int g => .int (posI RR.1 g) | d => d) := by simp [il, List.map_map]
          rw [hf]
          refine compL_map _ _ fun d hd => ?_
          obtain ⟨g, hg', rfl⟩ := List.mem_map.mp hd
          refine ⟨rfl, ?_⟩
          refine Eq.trans (b := .ok (.int (((il (RR.1.filter fun n => decide (n < g))).length : Nat) : Int))) ?_ (by rw [pos_read]; rfl)
          refine (v_call (set_ne rfl (on_out rfl)) rfl (c_len rfl (b_else rfl (v_comp ?_)) u_len))
          refine evComp_ok (items := il RR.1) (ds := il (RR.1.filter fun n => decide (n < g))) rfl (by exact rfl) ⟨rfl, rfl, rfl⟩ (by exact (i_name (set_ne rfl (on_in rfl (set_ne rfl h2))) rfl)) (by simp [il]; omega) ?_
          · have hf2 : il (RR.1.filter fun n => decide (n < g)) = ((il RR.1).filter (fun d => match d with | .int n => decide (n < g) | _ => false)).map id := by
              rw [List.map_id]; unfold il; rw [List.filter_map]; rfl
            rw [hf2]
            refine compL_filter _ _ _ fun d hd => ?_
            obtain ⟨m, hm', rfl⟩ := List.mem_map.mp hd
            exact ⟨by exact (q_one (t_cmp (v_name set_eq) (h_one (b_name (set_ne rfl (on_in rfl set_eq))) (m_lt rfl)))), by exact Eq.trans (v_name set_eq) (by simp only [List.length_cons, List.length_nil, if_true, if_false, reduceIte, reduceCtorEq, Option.map_some, Option.map_none, Int.reduceLE, Int.reduceLT, Int.reduceToNat, List.getElem?_cons_zero, List.getElem?_cons_succ, cmp1i, cmp1in, Bool.false_eq_true, or_false, or_true, true_or, false_or, beq_self_eq_true, Nat.reduceAdd, decide_true, decide_false, binop_add, binop_sub, Bool.and_true, Bool.true_and, Bool.and_false, Bool.false_and, Bool.or_false, Bool.or_true, Bool.true_or, Bool.false_or, List.isEmpty_cons, List.isEmpty_nil, Bool.not_true, Bool.not_false, and_true, true_and, and_self, ne_eq, not_false_eq_true, List.length_map, cmpint, only_app, id, gF, lF, cF])⟩
        · have hk9 : es.length ≤ 1000 := by rw [pos_read] at hkl; omega
          cases r with
          | sw ts =>
            have e : ((Row.sw ts).op == 69) = true := rfl
            have hR : row (rowL code RR.1 RR.2 a) = .tuple [.int 69, .tuple (il ((getG RR.2 a).map (posI RR.1)))] := by unfold rowL; rw [hr']; rfl
            refine go_nxt (eif_t rfl (by exact (t_cmp (v_sub rfl (b_else rfl (v_sub rfl (b_name (set_ne rfl (set_ne rfl h4))) (v_name (set_ne rfl set_eq)) hidx)) v_int i0) (h_one (b_else rfl v_int) (m_eq e)))) (exs_nxt (eappend (ds := es) (d := row (rowL code RR.1 RR.2 a)) rfl (by exact (set_ne rfl (set_ne rfl h1))) ⟨rfl, rfl, rfl, rfl⟩ hk9 (by exact Eq.trans (v_tup (s_cons v_int (s_cons (v_call (set_ne rfl (set_ne rfl h7)) rfl (c_tuple rfl (b_name set_eq) u_tup)) s_nil)) rfl) (by simp only [List.length_cons, List.length_nil, if_true, if_false, reduceIte, reduceCtorEq, Option.map_some, Option.map_none, Int.reduceLE, Int.reduceLT, Int.reduceToNat, List.getElem?_cons_zero, List.getElem?_cons_succ, cmp1i, cmp1in, Bool.false_eq_true, or_false, or_true, true_or, false_or, beq_self_eq_true, Nat.reduceAdd, decide_true, decide_false, binop_add, binop_sub, Bool.and_true, Bool.true_and, Bool.and_false, Bool.false_and, Bool.or_false, Bool.or_true, Bool.true_or, Bool.false_or, List.isEmpty_cons, List.isEmpty_nil, Bool.not_true, Bool.not_false, and_true, true_and, and_self, ne_eq, not_false_eq_true, List.length_map, cmpint, h7, hR]))) exs_nil)) (go_nil ⟨?_, ?_, ?_, ?_, ?_, ?_, ?_⟩)
            all_goals (first | exact set_eq | exact (set_ne rfl (set_ne rfl (set_ne rfl h2))) | exact (set_ne rfl (set_ne rfl (set_ne rfl h3))) | exact (set_ne rfl (set_ne rfl (set_ne rfl h4))) | exact (set_ne rfl (set_ne rfl (set_ne rfl h5))) | exact (set_ne rfl (set_ne rfl (set_ne rfl h6))) | exact (set_ne rfl (set_ne rfl (set_ne rfl h7))))
          | pl op n =>
            have q69 : op ≠ 69 := hwf _ (List.mem_of_getElem? hr')
            have e : ((Row.pl op n).op == 69) = false := by simpa [Row.op] using q69
            have i1 : index (row (.pl op n)) (.int 1) = .ok (.int n) := rfl
            have e0 : (Row.pl op n).op = op := rfl
            cases hgg : getG RR.2 a with
            | nil =>
              have hR : row (rowL code RR.1 RR.2 a) = .tuple [.int op, .int n] := by unfold rowL; rw [hr', hgg]; rfl
              refine go_nxt (eif_f rfl (by exact (t_cmp (v_sub rfl (b_else rfl (v_sub rfl (b_name (set_ne rfl (set_ne rfl h4))) (v_name (set_ne rfl set_eq)) hidx)) v_int i0) (h_one (b_else rfl v_int) (m_eq e)))) (exs_nxt (eappend (ds := es) (d := row (rowL code RR.1 RR.2 a)) rfl (by exact (set_ne rfl (set_ne rfl h1))) ⟨rfl, rfl, rfl, rfl⟩ hk9 (by exact Eq.trans (v_tup (s_cons (v_sub rfl (b_else rfl (v_sub rfl (b_name (set_ne rfl (set_ne rfl h4))) (v_name (set_ne rfl set_eq)) hidx)) v_int i0) (s_cons (v_if (t_name set_eq (r_list rfl)) (if_ff (nt_f rfl) (v_sub rfl (b_else rfl (v_sub rfl (b_name (set_ne rfl (set_ne rfl h4))) (v_name (set_ne rfl set_eq)) hidx)) v_int i1))) s_nil)) rfl) (by simp only [List.length_cons, List.length_nil, if_true, if_false, reduceIte, reduceCtorEq, Option.map_some, Option.map_none, Int.reduceLE, Int.reduceLT, Int.reduceToNat, List.getElem?_cons_zero, List.getElem?_cons_succ, cmp1i, cmp1in, Bool.false_eq_true, or_false, or_true, true_or, false_or, beq_self_eq_true, Nat.reduceAdd, decide_true, decide_false, binop_add, binop_sub, Bool.and_true, Bool.true_and, Bool.and_false, Bool.false_and, Bool.or_false, Bool.or_true, Bool.true_or, Bool.false_or, List.isEmpty_cons, List.isEmpty_nil, Bool.not_true, Bool.not_false, and_true, true_and, and_self, ne_eq, not_false_eq_true, List.length_map, cmpint, h4, hidx, i0, i1, e0, il, List.map_nil, hR]))) exs_nil)) (go_nil ⟨?_, ?_, ?_, ?_, ?_, ?_, ?_⟩)
              all_goals (first | exact set_eq | exact (set_ne rfl (set_ne rfl (set_ne rfl h2))) | exact (set_ne rfl (set_ne rfl (set_ne rfl h3))) | exact (set_ne rfl (set_ne rfl (set_ne rfl h4))) | exact (set_ne rfl (set_ne rfl (set_ne rfl h5))) | exact (set_ne rfl (set_ne rfl (set_ne rfl h6))) | exact (set_ne rfl (set_ne rfl (set_ne rfl h7))))
            | cons g gs =>
              have hR : row (rowL code RR.1 RR.2 a) = .tuple [.int op, .int (posI RR.1 g)] := by unfold rowL; rw [hr', hgg]; rfl
              have j0 : index (.list (il ((g :: gs).map (posI RR.1)))) (.int 0) = .ok (.int (posI RR.1 g)) := rfl
              have j1 : (il ((g :: gs).map (posI RR.1))).isEmpty = false := rfl
              refine go_nxt (eif_f rfl (by exact (t_cmp (v_sub rfl (b_else rfl (v_sub rfl (b_name (set_ne rfl (set_ne rfl h4))) (v_name (set_ne rfl set_eq)) hidx)) v_int i0) (h_one (b_else rfl v_int) (m_eq e)))) (exs_nxt (eappend (ds := es) (d := row (rowL code RR.1 RR.2 a)) rfl (by exact (set_ne rfl (set_ne rfl h1))) ⟨rfl, rfl, rfl, rfl⟩ hk9 (by exact Eq.trans (v_tup (s_cons (v_sub rfl (b_else rfl (v_sub rfl (b_name (set_ne rfl (set_ne rfl h4))) (v_name (set_ne rfl set_eq)) hidx)) v_int i0) (s_cons (v_if (t_name set_eq (r_list j1)) (if_tt (nt_t rfl) (v_sub rfl (b_name set_eq) v_int j0))) s_nil)) rfl) (by simp only [List.length_cons, List.length_nil, if_true, if_false, reduceIte, reduceCtorEq, Option.map_some, Option.map_none, Int.reduceLE, Int.reduceLT, Int.reduceToNat, List.getElem?_cons_zero, List.getElem?_cons_succ, cmp1i, cmp1in, Bool.false_eq_true, or_false, or_true, true_or, false_or, beq_self_eq_true, Nat.reduceAdd, decide_true, decide_false, binop_add, binop_sub, Bool.and_true, Bool.true_and, Bool.and_false, Bool.false_and, Bool.or_false, Bool.or_true, Bool.true_or, Bool.false_or, List.isEmpty_cons, List.isEmpty_nil, Bool.not_true, Bool.not_false, and_true, true_and, and_self, ne_eq, not_false_eq_true, List.length_map, cmpint, h4, hidx, i0, i1, e0, j0, j1, hR]))) exs_nil)) (go_nil ⟨?_, ?_, ?_, ?_, ?_, ?_, ?_⟩)
              all_goals (first | exact set_eq | exact (set_ne rfl (set_ne rfl (set_ne rfl h2))) | exact (set_ne rfl (set_ne rfl (set_ne rfl h3))) | exact (set_ne rfl (set_ne rfl (set_ne rfl h4))) | exact (set_ne rfl (set_ne rfl (set_ne rfl h5))) | exact (set_ne rfl (set_ne rfl (set_ne rfl h6))) | exact (set_ne rfl (set_ne rfl (set_ne rfl h7))))
      · have hrows : (il RR.1).map (fun d => match d with | .int i => row (rowL code RR.1 RR.2 i) | d => d) = (RR.1.map (rowL code RR.1 RR.2)).map row := by unfold il; rw [List.map_map, List.map_map]; rfl
        rw [hrows] at h1
        refine exs_nxt (by exact (x_set0 rfl rfl)) ?_
        refine xfor_app (out := "edges") (ds := cs.map cl) (fun d => match d with | .tuple [.int s, .int a, .int b, .int c, .int d, .int e] => cl (clL RR.1 ⟨s, a, b, c, d, e⟩) | d => d) (fun Γ => Γ "live" = some (.list (il RR.1), false) ∧ Γ "rows" = some (.list ((RR.1.map (rowL code RR.1 RR.2)).map row), true) ∧ Γ "len" = none) rfl rfl (by exact (o_name (set_ne rfl h5) rfl))
          (by exact set_eq) ⟨by exact (set_ne rfl h2), by exact (set_ne rfl h1), by exact (set_ne rfl h6)⟩ (fun k d Γ es hk hl k1 ⟨k2, k3, k4⟩ => ?_) fun Γ k1 ⟨k2, k3, k4⟩ => ?_
        · have hkl := getE hk
          rw [List.getElem?_map] at hk
          obtain ⟨c, hc, rfl⟩ := Option.map_eq_some_iff.mp hk
          have hsl : slice (cl c) 1 6 = .ok (.tuple (il [c.a, c.b, c.c, c.d, c.e])) := rfl
          have i0 : index (cl c) (.int 0) = .ok (.int c.s) := rfl
          have i5 : index (cl c) (.int 5) = .ok (.int c.e) := rfl
          have hk9 : es.length ≤ 1000 := by rw [List.length_map] at hkl; omega
          have he : ∀ (sc : Scope), True := fun _ => trivial
          refine go_nxt (ecomp_own (ds := il ([c.a, c.b, c.c, c.d, c.e].map (posI RR.1))) rfl rfl rfl rfl rfl (evComp_ok (items := il [c.a, c.b, c.c, c.d, c.e]) rfl (by exact Eq.trans rfl (by simp only [set_app, freeze_nil, freeze_app, emp_app, evName, ofStr_inj, ofStr_beq, List.lookup_cons, List.lookup_nil, List.length_cons, List.length_nil, if_true, if_false, reduceIte, reduceCtorEq, Res.bind_ok, Res.bind_exc, Res.guard_true, Out.of_ok, Out.of_exc, Option.map_some, Option.map_none, String.reduceEq, String.reduceBEq, Nat.reduceEqDiff, Int.reduceLE, Int.reduceLT, Int.reduceToNat, List.getElem?_cons_zero, List.getElem?_cons_succ, cmp1i, cmp1in, Bool.false_eq_true, List.mem_cons, List.not_mem_nil, or_false, or_true, true_or, false_or, beq_self_eq_true, szMax, Nat.reduceAdd, Nat.reduceLeDiff, decide_true, decide_false, truth, binop_add, binop_sub, notStar, isComp, loose, List.all_cons, List.all_nil, Bool.and_true, Bool.true_and, Bool.and_false, Bool.false_and, Bool.or_false, Bool.or_true, Bool.true_or, Bool.false_or, List.isEmpty_cons, List.isEmpty_nil, Bool.not_true, Bool.not_false, builtinNames, and_true, true_and, and_self, orAnd, andAnd, globB, ne_eq, not_false_eq_true, List.length_map, cmpint, idx_tup, freeOk, k2, Option.isSome_some]; rfl)) ⟨rfl, rfl, rfl⟩ (by exact (i_else rfl (v_slc (b_name set_eq) hsl) rfl)) (by simp [il]) ?_)) ?_
          · have hf : il ([c.a, c.b, c.c, c.d, c.e].map (posI RR.1)) = (il [c.a, c.b, c.c, c.d, c.e]).map (fun d => match d with | .int g => .int (posI RR.1 g) | d => d) := by simp [il]
            rw [hf]
            refine compL_map _ _ fun d hd => ?_
            obtain ⟨g, hg', rfl⟩ := List.mem_map.mp hd
            refine ⟨rfl, ?_⟩
            refine Eq.trans (b := .ok (.int (((il (RR.1.filter fun n => decide (n < g))).length : Nat) : Int))) ?_ (by rw [pos_read]; rfl)
            refine (v_call (set_ne rfl (on_out rfl)) rfl (c_len rfl (b_else rfl (v_comp ?_)) u_len))
            refine evComp_ok (items := il RR.1) (ds := il (RR.1.filter fun n => decide (n < g))) rfl (by exact rfl) ⟨rfl, rfl, rfl⟩ (by exact (i_name (set_ne rfl (on_in rfl (set_ne rfl k2))) rfl)) (by simp [il]; omega) ?_
            · have hf2 : il (RR.1.filter fun n => decide (n < g)) = ((il RR.1).filter (fun d => match d with | .int n => decide (n < g) | _ => false)).map id := by
                rw [List.map_id]; unfold il; rw [List.filter_map]; rfl
              rw [hf2]
              refine compL_filter _ _ _ fun d hd => ?_
              obtain ⟨m, hm', rfl⟩ := List.mem_map.mp hd
              exact ⟨by exact (q_one (t_cmp (v_name set_eq) (h_one (b_name (set_ne rfl (on_in rfl set_eq))) (m_lt rfl)))), by exact Eq.trans (v_name set_eq) (by simp only [List.length_cons, List.length_nil, if_true, if_false, reduceIte, reduceCtorEq, Option.map_some, Option.map_none, Int.reduceLE, Int.reduceLT, Int.reduceToNat, List.getElem?_cons_zero, List.getElem?_cons_succ, cmp1i, cmp1in, Bool.false_eq_true, or_false, or_true, true_or, false_or, beq_self_eq_true, Nat.reduceAdd, decide_true, decide_false, binop_add, binop_sub, Bool.and_true, Bool.true_and, Bool.and_false, Bool.false_and, Bool.or_false, Bool.or_true, Bool.true_or, Bool.false_or, List.isEmpty_cons, List.isEmpty_nil, Bool.not_true, Bool.not_false, and_true, true_and, and_self, ne_eq, not_false_eq_true, List.length_map, cmpint, only_app, id, gF, lF, cF])⟩
          · have hk9' := hk9
            cases hs : (c.s == 1) with
            | true =>
              have hR : cl (clL RR.1 c) = .tuple [.int c.s, .int (posI RR.1 c.a), .int (posI RR.1 c.b), .int (posI RR.1 c.c), .int (posI RR.1 c.d), .int (posI RR.1 c.e)] := by unfold clL cl; rw [hs]; rfl
              have q0 : index (.list (il ([c.a, c.b, c.c, c.d, c.e].map (posI RR.1)))) (.int 0) = .ok (.int (posI RR.1 c.a)) := rfl
              have q1 : index (.list (il ([c.a, c.b, c.c, c.d, c.e].map (posI RR.1)))) (.int 1) = .ok (.int (posI RR.1 c.b)) := rfl
              have q2 : index (.list (il ([c.a, c.b, c.c, c.d, c.e].map (posI RR.1)))) (.int 2) = .ok (.int (posI RR.1 c.c)) := rfl
              have q3 : index (.list (il ([c.a, c.b, c.c, c.d, c.e].map (posI RR.1)))) (.int 3) = .ok (.int (posI RR.1 c.d)) := rfl
              have q4 : index (.list (il ([c.a, c.b, c.c, c.d, c.e].map (posI RR.1)))) (.int 4) = .ok (.int (posI RR.1 c.e)) := rfl
              refine go_nxt (eif_f rfl (by exact Eq.trans (t_cmp (v_sub rfl (b_name (set_ne rfl set_eq)) v_int i0) (h_one (b_else rfl v_int) (m_ne hs))) (by simp only [List.length_cons, List.length_nil, if_true, if_false, reduceIte, reduceCtorEq, Option.map_some, Option.map_none, Int.reduceLE, Int.reduceLT, Int.reduceToNat, List.getElem?_cons_zero, List.getElem?_cons_succ, cmp1i, cmp1in, Bool.false_eq_true, or_false, or_true, true_or, false_or, beq_self_eq_true, Nat.reduceAdd, decide_true, decide_false, binop_add, binop_sub, Bool.and_true, Bool.true_and, Bool.and_false, Bool.false_and, Bool.or_false, Bool.or_true, Bool.true_or, Bool.false_or, List.isEmpty_cons, List.isEmpty_nil, Bool.not_true, Bool.not_false, and_true, true_and, and_self, ne_eq, not_false_eq_true, List.length_map, cmpint, i0, cmpne, bne, hs])) exs_nil) (go_nxt (eappend (ds := es) (d := cl (clL RR.1 c)) rfl (by exact (set_ne rfl (set_ne rfl k1))) ⟨rfl, rfl, rfl, rfl⟩ hk9 (by exact Eq.trans (v_tup (s_cons (v_sub rfl (b_name (set_ne rfl set_eq)) v_int i0) (s_cons (v_sub rfl (b_name set_eq) v_int q0) (s_cons (v_sub rfl (b_name set_eq) v_int q1) (s_cons (v_sub rfl (b_name set_eq) v_int q2) (s_cons (v_sub rfl (b_name set_eq) v_int q3) (s_cons (v_sub rfl (b_name set_eq) v_int q4) s_nil)))))) rfl) (by simp only [List.length_cons, List.length_nil, if_true, if_false, reduceIte, reduceCtorEq, Option.map_some, Option.map_none, Int.reduceLE, Int.reduceLT, Int.reduceToNat, List.getElem?_cons_zero, List.getElem?_cons_succ, cmp1i, cmp1in, Bool.false_eq_true, or_false, or_true, true_or, false_or, beq_self_eq_true, Nat.reduceAdd, decide_true, decide_false, binop_add, binop_sub, Bool.and_true, Bool.true_and, Bool.and_false, Bool.false_and, Bool.or_false, Bool.or_true, Bool.true_or, Bool.false_or, List.isEmpty_cons, List.isEmpty_nil, Bool.not_true, Bool.not_false, and_true, true_and, and_self, ne_eq, not_false_eq_true, List.length_map, cmpint, i0, q0, q1, q2, q3, q4, hR]))) (go_nil ⟨?_, ?_, ?_, ?_⟩))
              · exact Eq.trans set_eq rfl
              all_goals (first | exact (set_ne rfl (set_ne rfl (set_ne rfl k2))) | exact (set_ne rfl (set_ne rfl (set_ne rfl k3))) | exact (set_ne rfl (set_ne rfl (set_ne rfl k4))))
            | false =>
              have hR : cl (clL RR.1 c) = .tuple [.int c.s, .int (posI RR.1 c.a), .int (posI RR.1 c.b), .int (posI RR.1 c.c), .int (posI RR.1 c.d), .int c.e] := by unfold clL cl; rw [hs]; rfl
              have q0 : index (.list (il ([posI RR.1 c.a, posI RR.1 c.b, posI RR.1 c.c, posI RR.1 c.d, c.e]))) (.int 0) = .ok (.int (posI RR.1 c.a)) := rfl
              have q1 : index (.list (il ([posI RR.1 c.a, posI RR.1 c.b, posI RR.1 c.c, posI RR.1 c.d, c.e]))) (.int 1) = .ok (.int (posI RR.1 c.b)) := rfl
              have q2 : index (.list (il ([posI RR.1 c.a, posI RR.1 c.b, posI RR.1 c.c, posI RR.1 c.d, c.e]))) (.int 2) = .ok (.int (posI RR.1 c.c)) := rfl
              have q3 : index (.list (il ([posI RR.1 c.a, posI RR.1 c.b, posI RR.1 c.c, posI RR.1 c.d, c.e]))) (.int 3) = .ok (.int (posI RR.1 c.d)) := rfl
              have q4 : index (.list (il [posI RR.1 c.a, posI RR.1 c.b, posI RR.1 c.c, posI RR.1 c.d, c.e])) (.int 4) = .ok (.int c.e) := rfl
              refine go_nxt (eif_t rfl (by exact Eq.trans (t_cmp (v_sub rfl (b_name (set_ne rfl set_eq)) v_int i0) (h_one (b_else rfl v_int) (m_ne hs))) (by simp only [List.length_cons, List.length_nil, if_true, if_false, reduceIte, reduceCtorEq, Option.map_some, Option.map_none, Int.reduceLE, Int.reduceLT, Int.reduceToNat, List.getElem?_cons_zero, List.getElem?_cons_succ, cmp1i, cmp1in, Bool.false_eq_true, or_false, or_true, true_or, false_or, beq_self_eq_true, Nat.reduceAdd, decide_true, decide_false, binop_add, binop_sub, Bool.and_true, Bool.true_and, Bool.and_false, Bool.false_and, Bool.or_false, Bool.or_true, Bool.true_or, Bool.false_or, List.isEmpty_cons, List.isEmpty_nil, Bool.not_true, Bool.not_false, and_true, true_and, and_self, ne_eq, not_false_eq_true, List.length_map, cmpint, i0, cmpne, bne, hs])) (exs_nxt (Γ' := ((Γ.set "clause" (cl c) false).set "moved" (.list (il ([c.a, c.b, c.c, c.d, c.e].map (posI RR.1)))) true).set "moved" (.list (il [posI RR.1 c.a, posI RR.1 c.b, posI RR.1 c.c, posI RR.1 c.d, c.e])) true) (by exact Eq.trans (x_at rfl set_eq (v_sub rfl (b_name (set_ne rfl set_eq)) v_int i5) v_int rfl) (by simp only [List.length_cons, List.length_nil, if_true, if_false, reduceIte, reduceCtorEq, Option.map_some, Option.map_none, Int.reduceLE, Int.reduceLT, Int.reduceToNat, List.getElem?_cons_zero, List.getElem?_cons_succ, cmp1i, cmp1in, Bool.false_eq_true, or_false, or_true, true_or, false_or, beq_self_eq_true, Nat.reduceAdd, decide_true, decide_false, binop_add, binop_sub, Bool.and_true, Bool.true_and, Bool.and_false, Bool.false_and, Bool.or_false, Bool.or_true, Bool.true_or, Bool.false_or, List.isEmpty_cons, List.isEmpty_nil, Bool.not_true, Bool.not_false, and_true, true_and, and_self, ne_eq, not_false_eq_true, List.length_map, cmpint, i5]; rfl)) exs_nil)) (go_nxt (eappend (ds := es) (d := cl (clL RR.1 c)) rfl (by exact (set_ne rfl (set_ne rfl (set_ne rfl k1)))) ⟨rfl, rfl, rfl, rfl⟩ hk9 (by exact Eq.trans (v_tup (s_cons (v_sub rfl (b_name (set_ne rfl (set_ne rfl set_eq))) v_int i0) (s_cons (v_sub rfl (b_name set_eq) v_int q0) (s_cons (v_sub rfl (b_name set_eq) v_int q1) (s_cons (v_sub rfl (b_name set_eq) v_int q2) (s_cons (v_sub rfl (b_name set_eq) v_int q3) (s_cons (v_sub rfl (b_name set_eq) v_int q4) s_nil)))))) rfl) (by simp only [List.length_cons, List.length_nil, if_true, if_false, reduceIte, reduceCtorEq, Option.map_some, Option.map_none, Int.reduceLE, Int.reduceLT, Int.reduceToNat, List.getElem?_cons_zero, List.getElem?_cons_succ, cmp1i, cmp1in, Bool.false_eq_true, or_false, or_true, true_or, false_or, beq_self_eq_true, Nat.reduceAdd, decide_true, decide_false, binop_add, binop_sub, Bool.and_true, Bool.true_and, Bool.and_false, Bool.false_and, Bool.or_false, Bool.or_true, Bool.true_or, Bool.false_or, List.isEmpty_cons, List.isEmpty_nil, Bool.not_true, Bool.not_false, and_true, true_and, and_self, ne_eq, not_false_eq_true, List.length_map, cmpint, i0, q0, q1, q2, q3, q4, hR]))) (go_nil ⟨?_, ?_, ?_, ?_⟩))
              · exact Eq.trans set_eq rfl
              all_goals (first | exact (set_ne rfl (set_ne rfl (set_ne rfl (set_ne rfl k2)))) | exact (set_ne rfl (set_ne rfl (set_ne rfl (set_ne rfl k3)))) | exact (set_ne rfl (set_ne rfl (set_ne rfl (set_ne rfl k4)))))
        · have hm9 : (cs.map cl).map (fun d => match d with | .tuple [.int s, .int a, .int b, .int c, .int d, .int e] => cl (clL RR.1 ⟨s, a, b, c, d, e⟩) | d => d) = (cs.map (clL RR.1)).map cl := by rw [List.map_map, List.map_map]; rfl
          rw [hm9] at k1
          refine exs_ret ?_
          exact Eq.trans (x_retz rfl (v_tup (s_cons (v_name (fr_in rfl k3)) (s_cons (v_name (fr_in rfl k1)) s_nil)) rfl)) (by simp only [List.length_cons, List.length_nil, if_true, if_false, reduceIte, reduceCtorEq, Option.map_some, Option.map_none, Int.reduceLE, Int.reduceLT, Int.reduceToNat, List.getElem?_cons_zero, List.getElem?_cons_succ, cmp1i, cmp1in, Bool.false_eq_true, or_false, or_true, true_or, false_or, beq_self_eq_true, Nat.reduceAdd, decide_true, decide_false, binop_add, binop_sub, Bool.and_true, Bool.true_and, Bool.and_false, Bool.false_and, Bool.or_false, Bool.or_true, Bool.true_or, Bool.false_or, List.isEmpty_cons, List.isEmpty_nil, Bool.not_true, Bool.not_false, and_true, true_and, and_self, ne_eq, not_false_eq_true, List.length_map, cmpint, k1, k3, pairD, rws, cls])
end
end
section
set_option maxRecDepth 100000
set_option linter.unusedVariables false
set_option linter.unusedSimpArgs false

section
variable {T : Tab} {fz : Nat → List Str} {n : Nat} {sc : Scope} {Γ : Vars} {x : Str} {xp p pos : Pos} {t b o : Expr} {c : Bool} {u v : Int}
theorem eifexp (hz : fz pos.line = []) (hx : storable sc x = true) (h : evT T n sc Γ t = .ok c) (hb : c = true → ev T n sc Γ b = .ok (.int u)) (ho : c = false → ev T n sc Γ o = .ok (.int v)) :
    ex T fz (n + 2) sc Γ (.Assign [.Name x xp] (.IfExp t b o p) pos) = .nxt (Γ.set x (.int (if c then u else v)) false) := by
  have e : ev T (n + 1) sc Γ (.IfExp t b o p) = .ok (.int (if c then u else v)) := by
    refine bnd h ?_
    cases c with
    | true => exact hb rfl
    | false => exact ho rfl
  exact x_set hz hx rfl e
theorem ev_ifexp (h : evT T n sc Γ t = .ok c) (hb : c = true → ev T n sc Γ b = .ok (.int u)) (ho : c = false → ev T n sc Γ o = .ok (.int v)) : ev T (n + 1) sc Γ (.IfExp t b o p) = .ok (.int (if c then u else v)) := by
  refine bnd h ?_
  cases c with
  | true => exact hb rfl
  | false => exact ho rfl
end
section
variable {T : Tab} {fz : Nat → List Str} {n : Nat} {sc : Scope} {Γ : Vars} {pos : Pos}
theorem xfor_ex {x : Str} {p : Pos} {it : Expr} {b r : List Stmt} {ds : List PyData} {W : PyData → Prop} (I : Nat → Vars → Prop) (hz : fz pos.line = []) (hx : storable sc x = true) (h : evFor T n sc Γ it = .ok ds) (h0 : I 0 Γ)
    (step : ∀ k d Γ, ds[k]? = some d → I k Γ → Goes (exs T fz n sc (Γ.set x d false) b) (I (k + 1))) (rest : ∀ Γ', I ds.length Γ' → ∃ d, W d ∧ exs T fz (n + 1) sc Γ' r = .ret d) : ∃ d, W d ∧ exs T fz (n + 2) sc Γ (.For (.Name x p) it b [] pos :: r) = .ret d := by
  obtain ⟨Γ', e, hI⟩ := forL_ind (fun Γ => exs T fz n sc Γ b) x I ds 0 Γ h0 (fun k d Γ hk hI => by
    rw [Nat.zero_add] at hI ⊢; exact step k d Γ hk hI)
  rw [Nat.zero_add] at hI
  obtain ⟨d, w, e2⟩ := rest Γ' hI
  exact ⟨d, w, exs_nxt (efor hz hx h e) e2⟩
end
theorem idx0124 (g : Int) (h : 0 ≤ g ∧ g < 4) : index (.tuple [.int 0, .int 1, .int 2, .int 4]) (.int g) = .ok (.int (at_ [0, 1, 2, 4] g)) := by
  have h4 : g = 0 ∨ g = 1 ∨ g = 2 ∨ g = 3 := by omega
  rcases h4 with rfl | rfl | rfl | rfl <;> rfl

theorem sem_law_clauses (T : Tab) (q size : Int) (hsz : size ≠ 0) : ∃ cs : List Cl, cs.length ≤ 2 ∧ runDef T frz fuel F_law_clauses.1.scope ["q", "size"] (bodyOf F_law_clauses.1) [.int q, .int size] = .ok (cls cs) := by
  suffices H : ∃ d, (∃ cs : List Cl, cs.length ≤ 2 ∧ d = cls cs) ∧ exs T frz 60 F_law_clauses.1.scope (bindV ["q", "size"] [.int q, .int size]) (bodyOf F_law_clauses.1) = .ret d by
    obtain ⟨d, ⟨cs, w, rfl⟩, h⟩ := H
    exact ⟨cs, w, run_ret rfl h⟩
  simp only [F_law_clauses, bodyOf, bindV_cons, bindV_nil]
  obtain ⟨k0, k1⟩ := fmod_cases q 3 (by decide)
  obtain ⟨m, hm⟩ := Int.eq_ofNat_of_zero_le k0
  have hm3 : m < 3 := by omega
  have hms := fun a => bmod a size (by simpa using hsz)
  have skip : ∀ {n : Nat} {st : Stmt} {r : List Stmt} {sc : Scope} {Γ Γ' : Vars} {P : PyData → Prop}, ex T frz n sc Γ st = .nxt Γ' → (∃ d, P d ∧ exs T frz n sc Γ' r = .ret d) → ∃ d, P d ∧ exs T frz (n + 1) sc Γ (st :: r) = .ret d :=
    fun h1 ⟨d, w, e⟩ => ⟨d, w, exs_nxt h1 e⟩
  refine skip (by exact (x_set0 rfl rfl)) ?_
  refine xfor_ex (ds := rangeD m) (fun k Γ => (∃ cs : List Cl, cs.length = k ∧ Γ "out" = some (.list (cs.map cl), true)) ∧ Γ "q" = some (.int q, false) ∧ Γ "size" = some (.int size, false) ∧ Γ "min" = none) rfl rfl (evFor_range (by omega) (by exact (set_ne rfl (set_ne rfl (set_ne rfl emp_eq)))) rfl (by exact (v_bin (v_name (set_ne rfl set_eq)) v_int (md rfl hm))))
    ⟨⟨[], rfl, by exact Eq.trans set_eq (by simp only [List.length_cons, List.length_nil, if_true, if_false, reduceIte, reduceCtorEq, Option.map_some, Option.map_none, Int.reduceLE, Int.reduceLT, Int.reduceToNat, List.getElem?_cons_zero, List.getElem?_cons_succ, cmp1i, cmp1in, Bool.false_eq_true, or_false, or_true, true_or, false_or, beq_self_eq_true, Nat.reduceAdd, decide_true, decide_false, binop_add, binop_sub, Bool.and_true, Bool.true_and, Bool.and_false, Bool.false_and, Bool.or_false, Bool.or_true, Bool.true_or, Bool.false_or, List.isEmpty_cons, List.isEmpty_nil, Bool.not_true, Bool.not_false, and_true, true_and, and_self, ne_eq, not_false_eq_true, List.length_map, cmpint, List.map_nil])⟩, by exact (set_ne rfl set_eq), by exact (set_ne rfl (set_ne rfl set_eq)), by exact (set_ne rfl (set_ne rfl (set_ne rfl emp_eq)))⟩ (fun k d Γ hk ⟨⟨cs, hc, h1⟩, h2, h3, h4⟩ => ?_) (fun Γ ⟨⟨cs, hc, h1⟩, h2, h3, h4⟩ => ?_)
  · have hkl := getE hk
    rw [rangeD_length, Int.toNat_natCast] at hkl
    rw [rangeD_get (by rw [Int.toNat_natCast]; exact hkl)] at hk
    have hk2 : k = 0 ∨ k = 1 ∨ k = 2 := by omega
    have hd : d = .int 0 ∨ d = .int 1 := by
      cases hk
      rcases hk2 with rfl | rfl | rfl
      · exact .inl rfl
      · exact .inr rfl
      · omega
    clear hk
    rcases hd with rfl | rfl
    · have u1 : binop .Mult (.int 1003) (.int 0) = .ok (.int (1003 * 0)) := bmul _ _ (by decide)
      have u2 : binop .Mult (.int 2) (.int 0) = .ok (.int (2 * 0)) := bmul _ _ (by decide)
      have u3 : ∀ a, binop .FloorDiv (.int a) (.int (1 + 2 * 0)) = .ok (.int (a.fdiv (1 + 2 * 0))) := fun a => bfd _ _ (by decide)
      refine go_nxt (by exact (x_set rfl rfl rfl (v_bin (v_bin (v_name (set_ne rfl h2)) v_int (fd rfl rfl)) (v_bin v_int (v_name set_eq) u1) rfl))) ?_
      generalize q.fdiv 3 + 1003 * 0 = w
      obtain ⟨b0, b1⟩ := fmod_cases (w.fdiv (1 + 2 * 0)) 4 (by decide)
      have hi := idx0124 _ ⟨b0, b1⟩
      generalize hs4 : at_ [0, 1, 2, 4] ((w.fdiv (1 + 2 * 0)).fmod 4) = srt at hi
      refine go_nxt (Γ' := ((Γ.set "j" (.int 0) false).set "w" (.int w) false).set "sort" (.int srt) false) ?_ ?_
      · exact (x_set rfl rfl rfl (v_sub rfl (b_else rfl (v_tup (s_cons v_int (s_cons v_int (s_cons v_int (s_cons v_int s_nil)))) rfl)) (v_bin (v_bin (v_name set_eq) (v_bin v_int (v_bin v_int (v_name (set_ne rfl set_eq)) u2) rfl) (fd rfl rfl)) v_int (md rfl rfl)) hi))
      generalize hlt : (w.fdiv 300).fmod 23 = late
      refine go_nxt (Γ' := (((Γ.set "j" (.int 0) false).set "w" (.int w) false).set "sort" (.int srt) false).set "late" (.int late) false) (by exact (x_set rfl rfl rfl (v_bin (v_bin (v_name (set_ne rfl set_eq)) v_int (fd rfl rfl)) v_int (md rfl hlt)))) ?_
      refine go_nxt (eifexp (c := late == 19) (u := size) (v := (w.fdiv 4).fmod size) rfl rfl (by exact (t_cmp (v_name set_eq) (h_one (b_else rfl v_int) (m_eq rfl)))) (fun _ => by exact (v_name (set_ne rfl (set_ne rfl (set_ne rfl (set_ne rfl h3)))))) (fun _ => by exact Eq.trans (v_bin (v_bin (v_name (set_ne rfl (set_ne rfl set_eq))) v_int (fd rfl rfl)) (v_name (set_ne rfl (set_ne rfl (set_ne rfl (set_ne rfl h3))))) rfl) (by simp only [List.length_cons, List.length_nil, if_true, if_false, reduceIte, reduceCtorEq, Option.map_some, Option.map_none, Int.reduceLE, Int.reduceLT, Int.reduceToNat, List.getElem?_cons_zero, List.getElem?_cons_succ, cmp1i, cmp1in, Bool.false_eq_true, or_false, or_true, true_or, false_or, beq_self_eq_true, Nat.reduceAdd, decide_true, decide_false, binop_add, binop_sub, Bool.and_true, Bool.true_and, Bool.and_false, Bool.false_and, Bool.or_false, Bool.or_true, Bool.true_or, Bool.false_or, List.isEmpty_cons, List.isEmpty_nil, Bool.not_true, Bool.not_false, and_true, true_and, and_self, ne_eq, not_false_eq_true, List.length_map, cmpint, h3, d4, hms]))) ?_
      generalize (if late == 19 then size else (w.fdiv 4).fmod size) = t0
      refine go_nxt (eifexp (c := late == 21) (u := size) (v := (w.fdiv 16).fmod size) rfl rfl (by exact (t_cmp (v_name (set_ne rfl set_eq)) (h_one (b_else rfl v_int) (m_eq rfl)))) (fun _ => by exact (v_name (set_ne rfl (set_ne rfl (set_ne rfl (set_ne rfl (set_ne rfl h3))))))) (fun _ => by exact Eq.trans (v_bin (v_bin (v_name (set_ne rfl (set_ne rfl (set_ne rfl set_eq)))) v_int (fd rfl rfl)) (v_name (set_ne rfl (set_ne rfl (set_ne rfl (set_ne rfl (set_ne rfl h3)))))) rfl) (by simp only [List.length_cons, List.length_nil, if_true, if_false, reduceIte, reduceCtorEq, Option.map_some, Option.map_none, Int.reduceLE, Int.reduceLT, Int.reduceToNat, List.getElem?_cons_zero, List.getElem?_cons_succ, cmp1i, cmp1in, Bool.false_eq_true, or_false, or_true, true_or, false_or, beq_self_eq_true, Nat.reduceAdd, decide_true, decide_false, binop_add, binop_sub, Bool.and_true, Bool.true_and, Bool.and_false, Bool.false_and, Bool.or_false, Bool.or_true, Bool.true_or, Bool.false_or, List.isEmpty_cons, List.isEmpty_nil, Bool.not_true, Bool.not_false, and_true, true_and, and_self, ne_eq, not_false_eq_true, List.length_map, cmpint, h3, d16, hms]))) ?_
      generalize (if late == 21 then size else (w.fdiv 16).fmod size) = h0
      refine go_nxt (eifexp (c := srt == 1) (u := (w.fdiv 128).fmod size) (v := if srt == 0 then 7 + w.fmod 9 else 0) rfl rfl (by exact (t_cmp (v_name (set_ne rfl (set_ne rfl (set_ne rfl set_eq)))) (h_one (b_else rfl v_int) (m_eq rfl)))) (fun _ => by exact Eq.trans (v_bin (v_bin (v_name (set_ne rfl (set_ne rfl (set_ne rfl (set_ne rfl set_eq))))) v_int (fd rfl rfl)) (v_name (set_ne rfl (set_ne rfl (set_ne rfl (set_ne rfl (set_ne rfl (set_ne rfl h3))))))) rfl) (by simp only [List.length_cons, List.length_nil, if_true, if_false, reduceIte, reduceCtorEq, Option.map_some, Option.map_none, Int.reduceLE, Int.reduceLT, Int.reduceToNat, List.getElem?_cons_zero, List.getElem?_cons_succ, cmp1i, cmp1in, Bool.false_eq_true, or_false, or_true, true_or, false_or, beq_self_eq_true, Nat.reduceAdd, decide_true, decide_false, binop_add, binop_sub, Bool.and_true, Bool.true_and, Bool.and_false, Bool.false_and, Bool.or_false, Bool.or_true, Bool.true_or, Bool.false_or, List.isEmpty_cons, List.isEmpty_nil, Bool.not_true, Bool.not_false, and_true, true_and, and_self, ne_eq, not_false_eq_true, List.length_map, cmpint, h3, d128, hms])) (fun _ => ev_ifexp (c := srt == 0) (by exact (t_cmp (v_name (set_ne rfl (set_ne rfl (set_ne rfl set_eq)))) (h_one (b_else rfl v_int) (m_eq rfl)))) (fun _ => by exact (v_bin v_int (v_bin (v_name (set_ne rfl (set_ne rfl (set_ne rfl (set_ne rfl set_eq))))) v_int (md rfl rfl)) rfl)) (fun _ => by exact v_int))) ?_
      generalize (if srt == 1 then (w.fdiv 128).fmod size else if srt == 0 then 7 + w.fmod 9 else 0) = ex0
      have hlen : (cs.map cl).length ≤ 1000 := by rw [List.length_map]; omega
      refine go_if (c := late == 20 && srt == 1) (R := fun Γ' => (∃ e, Γ' "extra" = some (.int e, false)) ∧ Γ' "sort" = some (.int srt, false) ∧ Γ' "t0" = some (.int t0, false) ∧ Γ' "h0" = some (.int h0, false) ∧ Γ' "w" = some (.int w, false) ∧ Γ' "late" = some (.int late, false) ∧
          Γ' "size" = some (.int size, false) ∧ Γ' "q" = some (.int q, false) ∧ Γ' "out" = some (.list (cs.map cl), true) ∧ Γ' "min" = none) rfl ?_ (fun _ => ?_) (fun _ => ?_) fun Γ1 ⟨⟨e, e1⟩, e2, e3, e4, e5, e6, e7, e8, e9, e10⟩ => ?_
      · cases c1 : (late == 20) <;> cases c2 : (srt == 1) <;> (first | exact Eq.trans (t_all (a_and (t_cmp (v_name (set_ne rfl (set_ne rfl (set_ne rfl set_eq)))) (h_one (b_else rfl v_int) (m_eq c1))) (and_f rfl))) (by simp only [List.length_cons, List.length_nil, if_true, if_false, reduceIte, reduceCtorEq, Option.map_some, Option.map_none, Int.reduceLE, Int.reduceLT, Int.reduceToNat, List.getElem?_cons_zero, List.getElem?_cons_succ, cmp1i, cmp1in, Bool.false_eq_true, or_false, or_true, true_or, false_or, beq_self_eq_true, Nat.reduceAdd, decide_true, decide_false, binop_add, binop_sub, Bool.and_true, Bool.true_and, Bool.and_false, Bool.false_and, Bool.or_false, Bool.or_true, Bool.true_or, Bool.false_or, List.isEmpty_cons, List.isEmpty_nil, Bool.not_true, Bool.not_false, and_true, true_and, and_self, ne_eq, not_false_eq_true, List.length_map, cmpint, c1, c2]) | exact Eq.trans (t_all (a_and (t_cmp (v_name (set_ne rfl (set_ne rfl (set_ne rfl set_eq)))) (h_one (b_else rfl v_int) (m_eq c1))) (and_t rfl (a_and (t_cmp (v_name (set_ne rfl (set_ne rfl (set_ne rfl (set_ne rfl set_eq))))) (h_one (b_else rfl v_int) (m_eq c2))) (and_f rfl))))) (by simp only [List.length_cons, List.length_nil, if_true, if_false, reduceIte, reduceCtorEq, Option.map_some, Option.map_none, Int.reduceLE, Int.reduceLT, Int.reduceToNat, List.getElem?_cons_zero, List.getElem?_cons_succ, cmp1i, cmp1in, Bool.false_eq_true, or_false, or_true, true_or, false_or, beq_self_eq_true, Nat.reduceAdd, decide_true, decide_false, binop_add, binop_sub, Bool.and_true, Bool.true_and, Bool.and_false, Bool.false_and, Bool.or_false, Bool.or_true, Bool.true_or, Bool.false_or, List.isEmpty_cons, List.isEmpty_nil, Bool.not_true, Bool.not_false, and_true, true_and, and_self, ne_eq, not_false_eq_true, List.length_map, cmpint, c1, c2]) | exact Eq.trans (t_all (a_and (t_cmp (v_name (set_ne rfl (set_ne rfl (set_ne rfl set_eq)))) (h_one (b_else rfl v_int) (m_eq c1))) (and_t rfl (a_and (t_cmp (v_name (set_ne rfl (set_ne rfl (set_ne rfl (set_ne rfl set_eq))))) (h_one (b_else rfl v_int) (m_eq c2))) (and_t rfl a_nila))))) (by simp only [List.length_cons, List.length_nil, if_true, if_false, reduceIte, reduceCtorEq, Option.map_some, Option.map_none, Int.reduceLE, Int.reduceLT, Int.reduceToNat, List.getElem?_cons_zero, List.getElem?_cons_succ, cmp1i, cmp1in, Bool.false_eq_true, or_false, or_true, true_or, false_or, beq_self_eq_true, Nat.reduceAdd, decide_true, decide_false, binop_add, binop_sub, Bool.and_true, Bool.true_and, Bool.and_false, Bool.false_and, Bool.or_false, Bool.or_true, Bool.true_or, Bool.false_or, List.isEmpty_cons, List.isEmpty_nil, Bool.not_true, Bool.not_false, and_true, true_and, and_self, ne_eq, not_false_eq_true, List.length_map, cmpint, c1, c2]))
      · refine go_nxt (by exact (x_set rfl rfl rfl (v_name (set_ne rfl (set_ne rfl (set_ne rfl (set_ne rfl (set_ne rfl (set_ne rfl (set_ne rfl h3)))))))))) (go_nil ⟨⟨size, by exact set_eq⟩, ?_, ?_, ?_, ?_, ?_, ?_, ?_, ?_, ?_⟩)
        all_goals (first | exact (set_ne rfl (set_ne rfl (set_ne rfl (set_ne rfl (set_ne rfl set_eq))))) | exact (set_ne rfl (set_ne rfl (set_ne rfl set_eq))) | exact (set_ne rfl (set_ne rfl set_eq)) | exact (set_ne rfl (set_ne rfl (set_ne rfl (set_ne rfl (set_ne rfl (set_ne rfl set_eq)))))) | exact (set_ne rfl (set_ne rfl (set_ne rfl (set_ne rfl set_eq)))) | exact (set_ne rfl (set_ne rfl (set_ne rfl (set_ne rfl (set_ne rfl (set_ne rfl (set_ne rfl (set_ne rfl h3)))))))) | exact (set_ne rfl (set_ne rfl (set_ne rfl (set_ne rfl (set_ne rfl (set_ne rfl (set_ne rfl (set_ne rfl h2)))))))) | exact (set_ne rfl (set_ne rfl (set_ne rfl (set_ne rfl (set_ne rfl (set_ne rfl (set_ne rfl (set_ne rfl h1)))))))) | exact (set_ne rfl (set_ne rfl (set_ne rfl (set_ne rfl (set_ne rfl (set_ne rfl (set_ne rfl (set_ne rfl h4)))))))))
      · refine go_nil ⟨⟨ex0, by exact set_eq⟩, ?_, ?_, ?_, ?_, ?_, ?_, ?_, ?_, ?_⟩
        all_goals (first | exact (set_ne rfl (set_ne rfl (set_ne rfl (set_ne rfl set_eq)))) | exact (set_ne rfl (set_ne rfl set_eq)) | exact (set_ne rfl set_eq) | exact (set_ne rfl (set_ne rfl (set_ne rfl (set_ne rfl (set_ne rfl set_eq))))) | exact (set_ne rfl (set_ne rfl (set_ne rfl set_eq))) | exact (set_ne rfl (set_ne rfl (set_ne rfl (set_ne rfl (set_ne rfl (set_ne rfl (set_ne rfl h3))))))) | exact (set_ne rfl (set_ne rfl (set_ne rfl (set_ne rfl (set_ne rfl (set_ne rfl (set_ne rfl h2))))))) | exact (set_ne rfl (set_ne rfl (set_ne rfl (set_ne rfl (set_ne rfl (set_ne rfl (set_ne rfl h1))))))) | exact (set_ne rfl (set_ne rfl (set_ne rfl (set_ne rfl (set_ne rfl (set_ne rfl (set_ne rfl h4))))))))
      · refine go_nxt (eappend (ds := cs.map cl) (d := cl ⟨srt, t0, min (t0 + (w.fdiv 64).fmod 6) (size + late.fdiv 22), h0, min (h0 + (w.fdiv 32).fmod 5) size, e⟩) rfl (by exact e9) ⟨rfl, rfl, rfl, rfl⟩ hlen (by exact Eq.trans (v_tup (s_cons (v_name e2) (s_cons (v_name e3) (s_cons (v_call e10 rfl (c_min2 rfl (s_cons (v_bin (v_name e3) (v_bin (v_bin (v_name e5) v_int (fd rfl rfl)) v_int (md rfl rfl)) rfl) (s_cons (v_bin (v_name e7) (v_bin (v_name e6) v_int (fd rfl rfl)) rfl) s_nil)))) (s_cons (v_name e4) (s_cons (v_call e10 rfl (c_min2 rfl (s_cons (v_bin (v_name e4) (v_bin (v_bin (v_name e5) v_int (fd rfl rfl)) v_int (md rfl rfl)) rfl) (s_cons (v_name e7) s_nil)))) (s_cons (v_name e1) s_nil)))))) rfl) (by simp only [List.length_cons, List.length_nil, if_true, if_false, reduceIte, reduceCtorEq, Option.map_some, Option.map_none, Int.reduceLE, Int.reduceLT, Int.reduceToNat, List.getElem?_cons_zero, List.getElem?_cons_succ, cmp1i, cmp1in, Bool.false_eq_true, or_false, or_true, true_or, false_or, beq_self_eq_true, Nat.reduceAdd, decide_true, decide_false, binop_add, binop_sub, Bool.and_true, Bool.true_and, Bool.and_false, Bool.false_and, Bool.or_false, Bool.or_true, Bool.true_or, Bool.false_or, List.isEmpty_cons, List.isEmpty_nil, Bool.not_true, Bool.not_false, and_true, true_and, and_self, ne_eq, not_false_eq_true, List.length_map, cmpint, e1, e2, e3, e4, e5, e6, e7, e10, d64, m6, d22, d32, m5, cl]))) (go_nil ⟨⟨cs ++ [⟨srt, t0, min (t0 + (w.fdiv 64).fmod 6) (size + late.fdiv 22), h0, min (h0 + (w.fdiv 32).fmod 5) size, e⟩], ?_, ?_⟩, ?_, ?_, ?_⟩)
        · rw [List.length_append, hc]; rfl
        · exact Eq.trans set_eq (by simp only [List.length_cons, List.length_nil, if_true, if_false, reduceIte, reduceCtorEq, Option.map_some, Option.map_none, Int.reduceLE, Int.reduceLT, Int.reduceToNat, List.getElem?_cons_zero, List.getElem?_cons_succ, cmp1i, cmp1in, Bool.false_eq_true, or_false, or_true, true_or, false_or, beq_self_eq_true, Nat.reduceAdd, decide_true, decide_false, binop_add, binop_sub, Bool.and_true, Bool.true_and, Bool.and_false, Bool.false_and, Bool.or_false, Bool.or_true, Bool.true_or, Bool.false_or, List.isEmpty_cons, List.isEmpty_nil, Bool.not_true, Bool.not_false, and_true, true_and, and_self, ne_eq, not_false_eq_true, List.length_map, cmpint, List.map_append, List.map_cons, List.map_nil])
        all_goals (first | exact (set_ne rfl e8) | exact (set_ne rfl e7) | exact (set_ne rfl e10))
    · have u1 : binop .Mult (.int 1003) (.int 1) = .ok (.int (1003 * 1)) := bmul _ _ (by decide)
      have u2 : binop .Mult (.int 2) (.int 1) = .ok (.int (2 * 1)) := bmul _ _ (by decide)
      have u3 : ∀ a, binop .FloorDiv (.int a) (.int (1 + 2 * 1)) = .ok (.int (a.fdiv (1 + 2 * 1))) := fun a => bfd _ _ (by decide)
      refine go_nxt (by exact (x_set rfl rfl rfl (v_bin (v_bin (v_name (set_ne rfl h2)) v_int (fd rfl rfl)) (v_bin v_int (v_name set_eq) u1) rfl))) ?_
      generalize q.fdiv 3 + 1003 * 1 = w
      obtain ⟨b0, b1⟩ := fmod_cases (w.fdiv (1 + 2 * 1)) 4 (by decide)
      have hi := idx0124 _ ⟨b0, b1⟩
      generalize hs4 : at_ [0, 1, 2, 4] ((w.fdiv (1 + 2 * 1)).fmod 4) = srt at hi
      refine go_nxt (Γ' := ((Γ.set "j" (.int 1) false).set "w" (.int w) false).set "sort" (.int srt) false) ?_ ?_
      · exact (x_set rfl rfl rfl (v_sub rfl (b_else rfl (v_tup (s_cons v_int (s_cons v_int (s_cons v_int (s_cons v_int s_nil)))) rfl)) (v_bin (v_bin (v_name set_eq) (v_bin v_int (v_bin v_int (v_name (set_ne rfl set_eq)) u2) rfl) (fd rfl rfl)) v_int (md rfl rfl)) hi))
      generalize hlt : (w.fdiv 300).fmod 23 = late
      refine go_nxt (Γ' := (((Γ.set "j" (.int 1) false).set "w" (.int w) false).set "sort" (.int srt) false).set "late" (.int late) false) (by exact (x_set rfl rfl rfl (v_bin (v_bin (v_name (set_ne rfl set_eq)) v_int (fd rfl rfl)) v_int (md rfl hlt)))) ?_
      refine go_nxt (eifexp (c := late == 19) (u := size) (v := (w.fdiv 4).fmod size) rfl rfl (by exact (t_cmp (v_name set_eq) (h_one (b_else rfl v_int) (m_eq rfl)))) (fun _ => by exact (v_name (set_ne rfl (set_ne rfl (set_ne rfl (set_ne rfl h3)))))) (fun _ => by exact Eq.trans (v_bin (v_bin (v_name (set_ne rfl (set_ne rfl set_eq))) v_int (fd rfl rfl)) (v_name (set_ne rfl (set_ne rfl (set_ne rfl (set_ne rfl h3))))) rfl) (by simp only [List.length_cons, List.length_nil, if_true, if_false, reduceIte, reduceCtorEq, Option.map_some, Option.map_none, Int.reduceLE, Int.reduceLT, Int.reduceToNat, List.getElem?_cons_zero, List.getElem?_cons_succ, cmp1i, cmp1in, Bool.false_eq_true, or_false, or_true, true_or, false_or, beq_self_eq_true, Nat.reduceAdd, decide_true, decide_false, binop_add, binop_sub, Bool.and_true, Bool.true_and, Bool.and_false, Bool.false_and, Bool.or_false, Bool.or_true, Bool.true_or, Bool.false_or, List.isEmpty_cons, List.isEmpty_nil, Bool.not_true, Bool.not_false, and_true, true_and, and_self, ne_eq, not_false_eq_true, List.length_map, cmpint, h3, d4, hms]))) ?_
      generalize (if late == 19 then size else (w.fdiv 4).fmod size) = t0
      refine go_nxt (eifexp (c := late == 21) (u := size) (v := (w.fdiv 16).fmod size) rfl rfl (by exact (t_cmp (v_name (set_ne rfl set_eq)) (h_one (b_else rfl v_int) (m_eq rfl)))) (fun _ => by exact (v_name (set_ne rfl (set_ne rfl (set_ne rfl (set_ne rfl (set_ne rfl h3))))))) (fun _ => by exact Eq.trans (v_bin (v_bin (v_name (set_ne rfl (set_ne rfl (set_ne rfl set_eq)))) v_int (fd rfl rfl)) (v_name (set_ne rfl (set_ne rfl (set_ne rfl (set_ne rfl (set_ne rfl h3)))))) rfl) (by simp only [List.length_cons, List.length_nil, if_true, if_false, reduceIte, reduceCtorEq, Option.map_some, Option.map_none, Int.reduceLE, Int.reduceLT, Int.reduceToNat, List.getElem?_cons_zero, List.getElem?_cons_succ, cmp1i, cmp1in, Bool.false_eq_true, or_false, or_true, true_or, false_or, beq_self_eq_true, Nat.reduceAdd, decide_true, decide_false, binop_add, binop_sub, Bool.and_true, Bool.true_and, Bool.and_false, Bool.false_and, Bool.or_false, Bool.or_true, Bool.true_or, Bool.false_or, List.isEmpty_cons, List.isEmpty_nil, Bool.not_true, Bool.not_false, and_true, true_and, and_self, ne_eq, not_false_eq_true, List.length_map, cmpint, h3, d16, hms]))) ?_
      generalize (if late == 21 then size else (w.fdiv 16).fmod size) = h0
      refine go_nxt (eifexp (c := srt == 1) (u := (w.fdiv 128).fmod size) (v := if srt == 0 then 7 + w.fmod 9 else 0) rfl rfl (by exact (t_cmp (v_name (set_ne rfl (set_ne rfl (set_ne rfl set_eq)))) (h_one (b_else rfl v_int) (m_eq rfl)))) (fun _ => by exact Eq.trans (v_bin (v_bin (v_name (set_ne rfl (set_ne rfl (set_ne rfl (set_ne rfl set_eq))))) v_int (fd rfl rfl)) (v_name (set_ne rfl (set_ne rfl (set_ne rfl (set_ne rfl (set_ne rfl (set_ne rfl h3))))))) rfl) (by simp only [List.length_cons, List.length_nil, if_true, if_false, reduceIte, reduceCtorEq, Option.map_some, Option.map_none, Int.reduceLE, Int.reduceLT, Int.reduceToNat, List.getElem?_cons_zero, List.getElem?_cons_succ, cmp1i, cmp1in, Bool.false_eq_true, or_false, or_true, true_or, false_or, beq_self_eq_true, Nat.reduceAdd, decide_true, decide_false, binop_add, binop_sub, Bool.and_true, Bool.true_and, Bool.and_false, Bool.false_and, Bool.or_false, Bool.or_true, Bool.true_or, Bool.false_or, List.isEmpty_cons, List.isEmpty_nil, Bool.not_true, Bool.not_false, and_true, true_and, and_self, ne_eq, not_false_eq_true, List.length_map, cmpint, h3, d128, hms])) (fun _ => ev_ifexp (c := srt == 0) (by exact (t_cmp (v_name (set_ne rfl (set_ne rfl (set_ne rfl set_eq)))) (h_one (b_else rfl v_int) (m_eq rfl)))) (fun _ => by exact (v_bin v_int (v_bin (v_name (set_ne rfl (set_ne rfl (set_ne rfl (set_ne rfl set_eq))))) v_int (md rfl rfl)) rfl)) (fun _ => by exact v_int))) ?_
      generalize (if srt == 1 then (w.fdiv 128).fmod size else if srt == 0 then 7 + w.fmod 9 else 0) = ex0
      have hlen : (cs.map cl).length ≤ 1000 := by rw [List.length_map]; omega
      refine go_if (c := late == 20 && srt == 1) (R := fun Γ' => (∃ e, Γ' "extra" = some (.int e, false)) ∧ Γ' "sort" = some (.int srt, false) ∧ Γ' "t0" = some (.int t0, false) ∧ Γ' "h0" = some (.int h0, false) ∧ Γ' "w" = some (.int w, false) ∧ Γ' "late" = some (.int late, false) ∧
          Γ' "size" = some (.int size, false) ∧ Γ' "q" = some (.int q, false) ∧ Γ' "out" = some (.list (cs.map cl), true) ∧ Γ' "min" = none) rfl ?_ (fun _ => ?_) (fun _ => ?_) fun Γ1 ⟨⟨e, e1⟩, e2, e3, e4, e5, e6, e7, e8, e9, e10⟩ => ?_
      · cases c1 : (late == 20) <;> cases c2 : (srt == 1) <;> (first | exact Eq.trans (t_all (a_and (t_cmp (v_name (set_ne rfl (set_ne rfl (set_ne rfl set_eq)))) (h_one (b_else rfl v_int) (m_eq c1))) (and_f rfl))) (by simp only [List.length_cons, List.length_nil, if_true, if_false, reduceIte, reduceCtorEq, Option.map_some, Option.map_none, Int.reduceLE, Int.reduceLT, Int.reduceToNat, List.getElem?_cons_zero, List.getElem?_cons_succ, cmp1i, cmp1in, Bool.false_eq_true, or_false, or_true, true_or, false_or, beq_self_eq_true, Nat.reduceAdd, decide_true, decide_false, binop_add, binop_sub, Bool.and_true, Bool.true_and, Bool.and_false, Bool.false_and, Bool.or_false, Bool.or_true, Bool.true_or, Bool.false_or, List.isEmpty_cons, List.isEmpty_nil, Bool.not_true, Bool.not_false, and_true, true_and, and_self, ne_eq, not_false_eq_true, List.length_map, cmpint, c1, c2]) | exact Eq.trans (t_all (a_and (t_cmp (v_name (set_ne rfl (set_ne rfl (set_ne rfl set_eq)))) (h_one (b_else rfl v_int) (m_eq c1))) (and_t rfl (a_and (t_cmp (v_name (set_ne rfl (set_ne rfl (set_ne rfl (set_ne rfl set_eq))))) (h_one (b_else rfl v_int) (m_eq c2))) (and_f rfl))))) (by simp only [List.length_cons, List.length_nil, if_true, if_false, reduceIte, reduceCtorEq, Option.map_some, Option.map_none, Int.reduceLE, Int.reduceLT, Int.reduceToNat, List.getElem?_cons_zero, List.getElem?_cons_succ, cmp1i, cmp1in, Bool.false_eq_true, or_false, or_true, true_or, false_or, beq_self_eq_true, Nat.reduceAdd, decide_true, decide_false, binop_add, binop_sub, Bool.and_true, Bool.true_and, Bool.and_false, Bool.false_and, Bool.or_false, Bool.or_true, Bool.true_or, Bool.false_or, List.isEmpty_cons, List.isEmpty_nil, Bool.not_true, Bool.not_false, and_true, true_and, and_self, ne_eq, not_false_eq_true, List.length_map, cmpint, c1, c2]) | exact Eq.trans (t_all (a_and (t_cmp (v_name (set_ne rfl (set_ne rfl (set_ne rfl set_eq)))) (h_one (b_else rfl v_int) (m_eq c1))) (and_t rfl (a_and (t_cmp (v_name (set_ne rfl (set_ne rfl (set_ne rfl (set_ne rfl set_eq))))) (h_one (b_else rfl v_int) (m_eq c2))) (and_t rfl a_nila))))) (by simp only [List.length_cons, List.length_nil, if_true, if_false, reduceIte, reduceCtorEq, Option.map_some, Option.map_none, Int.reduceLE, Int.reduceLT, Int.reduceToNat, List.getElem?_cons_zero, List.getElem?_cons_succ, cmp1i, cmp1in, Bool.false_eq_true, or_false, or_true, true_or, false_or, beq_self_eq_true, Nat.reduceAdd, decide_true, decide_false, binop_add, binop_sub, Bool.and_true, Bool.true_and, Bool.and_false, Bool.false_and, Bool.or_false, Bool.or_true, Bool.true_or, Bool.false_or, List.isEmpty_cons, List.isEmpty_nil, Bool.not_true, Bool.not_false, and_true, true_and, and_self, ne_eq, not_false_eq_true, List.length_map, cmpint, c1, c2]))
      · refine go_nxt (by exact (x_set rfl rfl rfl (v_name (set_ne rfl (set_ne rfl (set_ne rfl (set_ne rfl (set_ne rfl (set_ne rfl (set_ne rfl h3)))))))))) (go_nil ⟨⟨size, by exact set_eq⟩, ?_, ?_, ?_, ?_, ?_, ?_, ?_, ?_, ?_⟩)
        all_goals (first | exact (set_ne rfl (set_ne rfl (set_ne rfl (set_ne rfl (set_ne rfl set_eq))))) | exact (set_ne rfl (set_ne rfl (set_ne rfl set_eq))) | exact (set_ne rfl (set_ne rfl set_eq)) | exact (set_ne rfl (set_ne rfl (set_ne rfl (set_ne rfl (set_ne rfl (set_ne rfl set_eq)))))) | exact (set_ne rfl (set_ne rfl (set_ne rfl (set_ne rfl set_eq)))) | exact (set_ne rfl (set_ne rfl (set_ne rfl (set_ne rfl (set_ne rfl (set_ne rfl (set_ne rfl (set_ne rfl h3)))))))) | exact (set_ne rfl (set_ne rfl (set_ne rfl (set_ne rfl (set_ne rfl (set_ne rfl (set_ne rfl (set_ne rfl h2)))))))) | exact (set_ne rfl (set_ne rfl (set_ne rfl (set_ne rfl (set_ne rfl (set_ne rfl (set_ne rfl (set_ne rfl h1)))))))) | exact (set_ne rfl (set_ne rfl (set_ne rfl (set_ne rfl (set_ne rfl (set_ne rfl (set_ne rfl (set_ne rfl h4)))))))))
      · refine go_nil ⟨⟨ex0, by exact set_eq⟩, ?_, ?_, ?_, ?_, ?_, ?_, ?_, ?_, ?_⟩
        all_goals (first | exact (set_ne rfl (set_ne rfl (set_ne rfl (set_ne rfl set_eq)))) | exact (set_ne rfl (set_ne rfl set_eq)) | exact (set_ne rfl set_eq) | exact (set_ne rfl (set_ne rfl (set_ne rfl (set_ne rfl (set_ne rfl set_eq))))) | exact (set_ne rfl (set_ne rfl (set_ne rfl set_eq))) | exact (set_ne rfl (set_ne rfl (set_ne rfl (set_ne rfl (set_ne rfl (set_ne rfl (set_ne rfl h3))))))) | exact (set_ne rfl (set_ne rfl (set_ne rfl (set_ne rfl (set_ne rfl (set_ne rfl (set_ne rfl h2))))))) | exact (set_ne rfl (set_ne rfl (set_ne rfl (set_ne rfl (set_ne rfl (set_ne rfl (set_ne rfl h1))))))) | exact (set_ne rfl (set_ne rfl (set_ne rfl (set_ne rfl (set_ne rfl (set_ne rfl (set_ne rfl h4))))))))
      · refine go_nxt (eappend (ds := cs.map cl) (d := cl ⟨srt, t0, min (t0 + (w.fdiv 64).fmod 6) (size + late.fdiv 22), h0, min (h0 + (w.fdiv 32).fmod 5) size, e⟩) rfl (by exact e9) ⟨rfl, rfl, rfl, rfl⟩ hlen (by exact Eq.trans (v_tup (s_cons (v_name e2) (s_cons (v_name e3) (s_cons (v_call e10 rfl (c_min2 rfl (s_cons (v_bin (v_name e3) (v_bin (v_bin (v_name e5) v_int (fd rfl rfl)) v_int (md rfl rfl)) rfl) (s_cons (v_bin (v_name e7) (v_bin (v_name e6) v_int (fd rfl rfl)) rfl) s_nil)))) (s_cons (v_name e4) (s_cons (v_call e10 rfl (c_min2 rfl (s_cons (v_bin (v_name e4) (v_bin (v_bin (v_name e5) v_int (fd rfl rfl)) v_int (md rfl rfl)) rfl) (s_cons (v_name e7) s_nil)))) (s_cons (v_name e1) s_nil)))))) rfl) (by simp only [List.length_cons, List.length_nil, if_true, if_false, reduceIte, reduceCtorEq, Option.map_some, Option.map_none, Int.reduceLE, Int.reduceLT, Int.reduceToNat, List.getElem?_cons_zero, List.getElem?_cons_succ, cmp1i, cmp1in, Bool.false_eq_true, or_false, or_true, true_or, false_or, beq_self_eq_true, Nat.reduceAdd, decide_true, decide_false, binop_add, binop_sub, Bool.and_true, Bool.true_and, Bool.and_false, Bool.false_and, Bool.or_false, Bool.or_true, Bool.true_or, Bool.false_or, List.isEmpty_cons, List.isEmpty_nil, Bool.not_true, Bool.not_false, and_true, true_and, and_self, ne_eq, not_false_eq_true, List.length_map, cmpint, e1, e2, e3, e4, e5, e6, e7, e10, d64, m6, d22, d32, m5, cl]))) (go_nil ⟨⟨cs ++ [⟨srt, t0, min (t0 + (w.fdiv 64).fmod 6) (size + late.fdiv 22), h0, min (h0 + (w.fdiv 32).fmod 5) size, e⟩], ?_, ?_⟩, ?_, ?_, ?_⟩)
        · rw [List.length_append, hc]; rfl
        · exact Eq.trans set_eq (by simp only [List.length_cons, List.length_nil, if_true, if_false, reduceIte, reduceCtorEq, Option.map_some, Option.map_none, Int.reduceLE, Int.reduceLT, Int.reduceToNat, List.getElem?_cons_zero, List.getElem?_cons_succ, cmp1i, cmp1in, Bool.false_eq_true, or_false, or_true, true_or, false_or, beq_self_eq_true, Nat.reduceAdd, decide_true, decide_false, binop_add, binop_sub, Bool.and_true, Bool.true_and, Bool.and_false, Bool.false_and, Bool.or_false, Bool.or_true, Bool.true_or, Bool.false_or, List.isEmpty_cons, List.isEmpty_nil, Bool.not_true, Bool.not_false, and_true, true_and, and_self, ne_eq, not_false_eq_true, List.length_map, cmpint, List.map_append, List.map_cons, List.map_nil])
        all_goals (first | exact (set_ne rfl e8) | exact (set_ne rfl e7) | exact (set_ne rfl e10))
  · rw [rangeD_length, Int.toNat_natCast] at hc
    exact ⟨_, ⟨cs, by omega, rfl⟩, exs_ret (by exact (x_retz rfl (v_name (fr_in rfl h1))))⟩
end
section
set_option linter.unusedVariables false
set_option linter.unusedSimpArgs false

noncomputable def posN (ls : List Int) (g : Int) : Nat := (ls.filter fun n => decide (n < g)).length

theorem take_pos (g : Int) : ∀ {ls : List Int}, ls.Pairwise (· < ·) → ls.take (posN ls g) = ls.filter fun n => decide (n < g)
  | [], _ => by simp
  | a :: ls, h => by
    have ih := take_pos g (List.pairwise_cons.mp h).2
    by_cases q : a < g
    · have e : posN (a :: ls) g = posN ls g + 1 := by simp [posN, q]
      rw [e, List.take_succ_cons, ih, List.filter_cons]; simp [q]
    · have z : (a :: ls).filter (fun n => decide (n < g)) = [] := by
        rw [List.filter_eq_nil_iff]
        intro b hb
        rcases List.mem_cons.mp hb with rfl | hb
        · simpa using q
        · have := (List.pairwise_cons.mp h).1 b hb; simp; omega
      rw [posN, z]; rfl
theorem drop_pos (g : Int) : ∀ {ls : List Int}, ls.Pairwise (· < ·) → ls.drop (posN ls g) = ls.filter fun n => decide (n ≥ g)
  | [], _ => by simp
  | a :: ls, h => by
    have ih := drop_pos g (List.pairwise_cons.mp h).2
    by_cases q : a < g
    · have e : posN (a :: ls) g = posN ls g + 1 := by simp [posN, q]
      have q' : ¬ a ≥ g := by omega
      rw [e, List.drop_succ_cons, ih, List.filter_cons]; simp [q']
    · have z : (a :: ls).filter (fun n => decide (n < g)) = [] := by
        rw [List.filter_eq_nil_iff]
        intro b hb
        rcases List.mem_cons.mp hb with rfl | hb
        · simpa using q
        · have := (List.pairwise_cons.mp h).1 b hb; simp; omega
      have w : (a :: ls).filter (fun n => decide (n ≥ g)) = a :: ls := by
        rw [List.filter_eq_self]
        intro b hb
        rcases List.mem_cons.mp hb with rfl | hb
        · simp; omega
        · have := (List.pairwise_cons.mp h).1 b hb; simp; omega
      rw [posN, z, w]; rfl
theorem posN_cons (a : Int) (ls : List Int) (g : Int) : posN (a :: ls) g = (if a < g then 1 else 0) + posN ls g := by
  by_cases q : a < g
  · simp [posN, q]; omega
  · simp [posN, q]
theorem posN_mono (ls : List Int) {g g' : Int} (h : g ≤ g') : posN ls g ≤ posN ls g' := by
  induction ls with
  | nil => exact Nat.le_refl _
  | cons a ls ih =>
    rw [posN_cons, posN_cons]
    by_cases q : a < g
    · rw [if_pos q, if_pos (by omega)]; omega
    · rw [if_neg q]; split <;> omega
theorem posN_le (ls : List Int) (g : Int) : posN ls g ≤ ls.length := List.length_filter_le _ _
theorem posN_zero {ls : List Int} {g : Int} (h : ∀ a ∈ ls, g ≤ a) : posN ls g = 0 := by
  unfold posN
  rw [List.filter_eq_nil_iff.mpr (fun a ha => by have := h a ha; simp; omega)]; rfl
theorem posN_all {ls : List Int} {g : Int} (h : ∀ a ∈ ls, a < g) : posN ls g = ls.length := by
  unfold posN
  rw [List.filter_eq_self.mpr (fun a ha => by have := h a ha; simp; omega)]
theorem posN_get : ∀ {ls : List Int} (hs : ls.Pairwise (· < ·)) {j : Nat} {i : Int}, ls[j]? = some i → posN ls i = j ∧ posN ls (i + 1) = j + 1
  | [], _, _, _, h => by simp at h
  | a :: ls, hs, 0, i, h => by
    have e : a = i := by simpa using h
    subst e
    have hb := (List.pairwise_cons.mp hs).1
    rw [posN_cons, posN_cons, posN_zero (fun b hb' => by have := hb b hb'; omega), posN_zero (fun b hb' => by have := hb b hb'; omega), if_neg (by omega), if_pos (by omega)]
    exact ⟨rfl, rfl⟩
  | a :: ls, hs, j + 1, i, h => by
    have h : ls[j]? = some i := by simpa using h
    obtain ⟨e1, e2⟩ := posN_get (List.pairwise_cons.mp hs).2 h
    have hb := (List.pairwise_cons.mp hs).1 i (List.mem_of_getElem? h)
    rw [posN_cons, posN_cons, e1, e2, if_pos hb, if_pos (by omega)]
    omega
theorem posN_mem {ls : List Int} (hs : ls.Pairwise (· < ·)) {i : Int} (h : i ∈ ls) : ls[posN ls i]? = some i ∧ posN ls (i + 1) = posN ls i + 1 := by
  obtain ⟨j, hj⟩ := List.mem_iff_getElem?.mp h
  obtain ⟨e1, e2⟩ := posN_get hs hj
  rw [e1, e2]; exact ⟨hj, rfl⟩
theorem pos_le_iff {ls : List Int} (hs : ls.Pairwise (· < ·)) {i : Int} (h : i ∈ ls) (a : Int) : posN ls a ≤ posN ls i ↔ a ≤ i := by
  constructor
  · intro hle
    by_cases q : a ≤ i
    · exact q
    · have h1 := (posN_mem hs h).2
      have h2 := posN_mono ls (show i + 1 ≤ a by omega)
      omega
  · exact fun q => posN_mono ls q

/-- the first live place at or behind g -/
theorem head_drop {α : Type} : ∀ (l : List α) (n : Nat), (l.drop n).head? = l[n]?
  | [], n => by simp
  | a :: l, 0 => by simp
  | a :: l, n + 1 => by simp
theorem behind_get {ls : List Int} (hs : ls.Pairwise (· < ·)) (g : Int) (h : ∃ m ∈ ls, g ≤ m) : ∃ b, ls[posN ls g]? = some b ∧ g ≤ b ∧ b ∈ ls ∧ ∃ r, (ls.filter fun i => decide (i ≥ g)) = b :: r ∧ ∀ x ∈ r, b < x := by
  obtain ⟨m, hm, hg⟩ := h
  have hd := drop_pos g hs
  cases hf : ls.filter (fun n => decide (n ≥ g)) with
  | nil =>
    have := List.filter_eq_nil_iff.mp hf m hm
    simp at this; omega
  | cons b r =>
    have hb : b ∈ ls.filter (fun n => decide (n ≥ g)) := by rw [hf]; exact List.mem_cons_self
    have hp : (b :: r).Pairwise (· < ·) := by rw [← hf]; exact hs.filter _
    refine ⟨b, ?_, by simpa using (List.mem_filter.mp hb).2, (List.mem_filter.mp hb).1, r, rfl, (List.pairwise_cons.mp hp).1⟩
    rw [← head_drop, hd, hf]; rfl
theorem foldl_min_eq (b : Int) : ∀ (r : List Int), (∀ x ∈ r, b ≤ x) → r.foldl min b = b
  | [], _ => rfl
  | x :: r, h => by
    rw [List.foldl_cons, show min b x = b from Int.min_eq_left (h x (by simp))]
    exact foldl_min_eq b r fun y hy => h y (by simp [hy])

-- chains
theorem nodup_le' : ∀ (l l' : List Int), l.Nodup → (∀ a ∈ l, a ∈ l') → l.length ≤ l'.length
  | [], _, _, _ => Nat.zero_le _
  | a :: l, l', hn, hs => by
    obtain ⟨h1, h2⟩ := List.nodup_cons.mp hn
    have ha := hs a (by simp)
    have := nodup_le' l (l'.erase a) h2 fun b hb => by
      have hb' := hs b (by simp [hb])
      exact (List.mem_erase_of_ne (fun q : b = a => h1 (q ▸ hb))).mpr hb'
    rw [List.length_erase_of_mem ha] at this
    have := List.length_pos_of_mem ha
    simp only [List.length_cons]; omega

section
variable (go : Int → Bool) (nx : Int → Int)
noncomputable def iter : Nat → Int → Int
  | 0, a => a
  | t + 1, a => nx (iter t a)
theorem iter_succ (t : Nat) (a : Int) : iter nx t (nx a) = iter nx (t + 1) a := by
  induction t with
  | zero => rfl
  | succ t ih => show nx (iter nx t (nx a)) = nx (iter nx (t + 1) a); rw [ih]
/-- a walk that has met a place twice never stops -/
theorem never {a : Int} {s t : Nat} (hst : s < t) (he : iter nx t a = iter nx s a) (hg : ∀ u, u < t → go (iter nx u a) = true) : ∀ u, go (iter nx u a) = true := by
  have per : ∀ u, iter nx (t + u) a = iter nx (s + u) a := by
    intro u
    induction u with
    | zero => exact he
    | succ u ih => show nx (iter nx (t + u) a) = nx (iter nx (s + u) a); rw [ih]
  intro u
  induction u using Nat.strongRecOn with
  | _ u ih =>
    by_cases q : u < t
    · exact hg u q
    · have := per (u - t)
      rw [show t + (u - t) = u by omega] at this
      rw [this]
      exact ih _ (by omega)
noncomputable def First (a x : Int) : Prop := ∃ t, x = iter nx t a ∧ go x = false ∧ ∀ u, u < t → go (iter nx u a) = true
noncomputable def Round (a : Int) : Prop := ∀ u, go (iter nx u a) = true
theorem First.unique {a x y : Int} (h : First go nx a x) (g : First go nx a y) : x = y := by
  obtain ⟨t, e, n, k⟩ := h
  obtain ⟨t', e', n', k'⟩ := g
  rcases Nat.lt_trichotomy t t' with q | q | q
  · have := k' t q; rw [← e, n] at this; cases this
  · rw [e, e', q]
  · have := k t' q; rw [← e', n'] at this; cases this
theorem First.not_round {a x : Int} (h : First go nx a x) : ¬ Round go nx a := by
  obtain ⟨t, e, n, k⟩ := h
  intro r
  have := r t; rw [← e, n] at this; cases this
/-- the two walks, one that notes what it has seen, one that counts -/
noncomputable def seenW : Nat → List Int → Int → Option Int
  | 0, _, _ => none
  | k + 1, seen, a => if go a then (if seen.contains a then none else seenW k (seen ++ [a]) (nx a)) else some a
noncomputable def countW (N : Int) : Nat → Int → Int → Option Int
  | 0, _, _ => none
  | k + 1, st, a => if go a then (if decide (st + 1 > N) then none else countW N k (st + 1) (nx a)) else some a
variable (ls : List Int) (hin : ∀ a ∈ ls, go a = true → nx a ∈ ls)
include hin
theorem iter_mem {a : Int} (ha : a ∈ ls) : ∀ t, (∀ u, u < t → go (iter nx u a) = true) → iter nx t a ∈ ls
  | 0, _ => ha
  | t + 1, h => hin _ (iter_mem ha t fun u hu => h u (by omega)) (h t (by omega))
theorem pigeon {a : Int} (ha : a ∈ ls) (t : Nat) (ht : ls.length < t) (h : ∀ u, u < t → go (iter nx u a) = true) : Round go nx a := by
  by_cases hn : ((List.range t).map fun u => iter nx u a).Nodup
  · have := nodup_le' _ ls hn fun b hb => by
      obtain ⟨u, hu, rfl⟩ := List.mem_map.mp hb
      exact iter_mem go nx ls hin ha u fun v hv => h v (by have := List.mem_range.mp hu; omega)
    rw [List.length_map, List.length_range] at this
    omega
  · have : ∃ u v, u < v ∧ v < t ∧ iter nx v a = iter nx u a := by
      rcases Classical.em (∃ u v, u < v ∧ v < t ∧ iter nx v a = iter nx u a) with q | q
      · exact q
      · exfalso
        apply hn
        rw [List.nodup_iff_pairwise_ne, List.pairwise_map]
        refine List.Pairwise.imp_of_mem ?_ List.pairwise_lt_range
        intro u v hu hv huv e
        exact q ⟨u, v, huv, List.mem_range.mp hv, e.symm⟩
    obtain ⟨u, v, huv, hv, e⟩ := this
    exact never go nx huv e fun w hw => h w (by omega)
theorem seenW_spec {a : Int} (ha : a ∈ ls) : ∀ k t, (∀ u, u < t → go (iter nx u a) = true) → ls.length < k + t →
    match seenW go nx k ((List.range t).map fun u => iter nx u a) (iter nx t a) with | some x => First go nx a x | none => Round go nx a
  | 0, t, h, hk => by
    simp only [seenW]
    exact pigeon go nx ls hin ha t (by omega) h
  | k + 1, t, h, hk => by
    simp only [seenW]
    cases hg : go (iter nx t a) with
    | false => exact ⟨t, rfl, hg, h⟩
    | true =>
      simp only [if_true]
      cases hc : ((List.range t).map fun u => iter nx u a).contains (iter nx t a) with
      | true =>
        simp only [if_true]
        obtain ⟨u, hu, e⟩ := List.mem_map.mp (List.contains_iff_mem.mp hc)
        exact never go nx (List.mem_range.mp hu) e.symm h
      | false =>
        have hr : ((List.range t).map fun u => iter nx u a) ++ [iter nx t a] = (List.range (t + 1)).map fun u => iter nx u a := by rw [List.range_succ, List.map_append]; rfl
        simp only [Bool.false_eq_true, if_false]
        rw [hr]
        have := seenW_spec ha k (t + 1) (fun u hu => by
          by_cases q : u = t
          · rw [q]; exact hg
          · exact h u (by omega)) (by omega)
        exact this
theorem countW_spec {a : Int} (ha : a ∈ ls) (N : Nat) (hN : ls.length ≤ N) : ∀ k t, (∀ u, u < t → go (iter nx u a) = true) → N < k + t →
    match countW go nx N k t (iter nx t a) with | some x => First go nx a x | none => Round go nx a
  | 0, t, h, hk => by
    simp only [countW]
    exact pigeon go nx ls hin ha t (by omega) h
  | k + 1, t, h, hk => by
    simp only [countW]
    cases hg : go (iter nx t a) with
    | false => exact ⟨t, rfl, hg, h⟩
    | true =>
      have h' : ∀ u, u < t + 1 → go (iter nx u a) = true := fun u hu => by
        by_cases q : u = t
        · rw [q]; exact hg
        · exact h u (by omega)
      simp only [if_true]
      by_cases hc : (t : Int) + 1 > N
      · rw [if_pos (by simpa using hc)]
        exact pigeon go nx ls hin ha (t + 1) (by omega) h'
      · rw [if_neg (by simpa using hc)]
        exact countW_spec ha N hN k (t + 1) h' (by omega)
theorem walks_eq {a : Int} (ha : a ∈ ls) (N k : Nat) (hN : ls.length ≤ N) (hk : N < k) : seenW go nx k [] a = countW go nx N k 0 a := by
  have h1 := seenW_spec go nx ls hin ha k 0 (fun u hu => by omega) (by omega)
  have h2 := countW_spec go nx ls hin ha N hN k 0 (fun u hu => by omega) (by omega)
  simp only [List.range_zero, List.map_nil] at h1
  have e0 : iter nx 0 a = a := rfl
  rw [e0] at h1 h2
  have e1 : ((0 : Nat) : Int) = 0 := rfl
  rw [e1] at h2
  cases q1 : seenW go nx k [] a with
  | none =>
    rw [q1] at h1
    cases q2 : countW go nx N k 0 a with
    | none => rfl
    | some y => rw [q2] at h2; exact absurd h1 h2.not_round
  | some x =>
    rw [q1] at h1
    cases q2 : countW go nx N k 0 a with
    | none => rw [q2] at h2; exact absurd h2 h1.not_round
    | some y => rw [q2] at h2; rw [h1.unique go nx h2]
end
end
section
set_option linter.unusedVariables false
set_option linter.unusedSimpArgs false

theorem posI_N (ls : List Int) (g : Int) : posI ls g = (posN ls g : Int) := rfl

structure Live (code0 : List Row) (cs0 : List Cl) (ls : List Int) (G : List (Int × List Int)) : Prop where
  srt : ls.Pairwise (· < ·)
  rng : ∀ a ∈ ls, 0 ≤ a ∧ a < (code0.length : Int)
  last : ∀ g : Int, 0 ≤ g → g < (code0.length : Int) → ((code0.length : Int) - 1) ∈ ls
  edge : ∀ c ∈ cs0, ∀ e ∈ edgesOf c, 0 ≤ e ∧ e ≤ (code0.length : Int) ∧ (e < (code0.length : Int) → e ∈ ls)
  look : ∀ a ∈ ls, lookG G a = some (getG G a)
  len : ∀ a ∈ ls, (getG G a).length = (goals0 code0 a).length
  goal : ∀ a ∈ ls, ∀ g ∈ getG G a, 0 ≤ g ∧ g < (code0.length : Int)

theorem behindI_none {ls : List Int} {n : Int} (h : ∀ a ∈ ls, a < n) : behindI ls n = 999 := by
  unfold behindI
  have : ls.filter (fun i => decide (i ≥ n)) = [] := by
    rw [List.filter_eq_nil_iff]; intro a ha; have := h a ha; simp; omega
  rw [this]; rfl
theorem behindI_some {ls : List Int} (hs : ls.Pairwise (· < ·)) (h9 : ∀ a ∈ ls, a ≤ 999) (n : Int) (h : ∃ m ∈ ls, n ≤ m) : ls[posN ls n]? = some (behindI ls n) ∧ behindI ls n ∈ ls ∧ n ≤ behindI ls n := by
  obtain ⟨b, h1, h2, h3, r, h4, h5⟩ := behind_get hs n h
  have : behindI ls n = b := by
    unfold behindI
    rw [h4]
    show (r ++ [999]).foldl min b = b
    refine foldl_min_eq b _ fun x hx => ?_
    rcases List.mem_append.mp hx with hx | hx
    · have := h5 x hx; omega
    · have : x = 999 := by simpa using hx
      have := h9 b h3; omega
  rw [this]; exact ⟨h1, h3, h2⟩

section
variable {code0 : List Row} {cs0 : List Cl} {ls : List Int} {G : List (Int × List Int)} (hN : code0.length ≤ 90)
include hN
theorem Live.behind (L : Live code0 cs0 ls G) {g : Int} (h0 : 0 ≤ g) (h1 : g < (code0.length : Int)) : ls[posN ls g]? = some (behindI ls g) ∧ behindI ls g ∈ ls ∧ g ≤ behindI ls g :=
  behindI_some L.srt (fun a ha => by have := (L.rng a ha).2; omega) g ⟨_, L.last g h0 h1, by omega⟩
theorem Live.pos_behind (L : Live code0 cs0 ls G) {g : Int} (h0 : 0 ≤ g) (h1 : g < (code0.length : Int)) : posN ls (behindI ls g) = posN ls g :=
  (posN_get L.srt (L.behind hN h0 h1).1).1
omit hN in
theorem Live.llen (L : Live code0 cs0 ls G) : ls.length ≤ code0.length := by
  have := nodup_le' ls ((List.range code0.length).map Int.ofNat) (L.srt.imp fun h q => by omega) fun a ha => by
    obtain ⟨h0, h1⟩ := L.rng a ha
    exact List.mem_map.mpr ⟨a.toNat, List.mem_range.mpr (by omega), by simp; omega⟩
  simpa using this
end

-- the keys
noncomputable def flags (c : Cl) (i : Int) : Bool × Bool × Bool := (decide (c.a ≤ i) && decide (i < c.b), c.s == 1 && (decide (c.e ≤ i) && decide (i < c.c)), decide (c.c ≤ i) && decide (i < c.d))
theorem part_iff (c : Cl) (a b : Int) : PyData.eqv (partOf a c) (partOf b c) = decide (flags c a = flags c b) := by
  unfold partOf flags
  simp only [PyData.eqv, PyData.eqvAll]
  generalize (decide (c.a ≤ a) && decide (a < c.b)) = x1
  generalize (decide (c.a ≤ b) && decide (b < c.b)) = x2
  generalize (c.s == 1 && (decide (c.e ≤ a) && decide (a < c.c))) = y1
  generalize (c.s == 1 && (decide (c.e ≤ b) && decide (b < c.c))) = y2
  generalize (decide (c.c ≤ a) && decide (a < c.d)) = z1
  generalize (decide (c.c ≤ b) && decide (b < c.d)) = z2
  revert x1 x2 y1 y2 z1 z2
  decide
theorem peq_iff (cs : List Cl) (a b : Int) : peq cs a b = true ↔ ∀ c ∈ cs, flags c a = flags c b := by
  unfold peq partsD
  simp only [PyData.eqv]
  induction cs with
  | nil => simp [PyData.eqvAll]
  | cons c cs ih =>
    rw [List.map_cons, List.map_cons, PyData.eqvAll, Bool.and_eq_true, ih, part_iff, decide_eq_true_eq]
    simp
theorem keyAt_flags (p : Int) (c : Cl) (i j : Int) (h : flags c i = flags c j) : keyAt p c i = keyAt p c j := by
  simp only [flags, Prod.mk.injEq] at h
  unfold keyAt
  rw [h.1, h.2.1, h.2.2]
theorem mem_keyAt (p : Int) (c : Cl) (i x : Int) : x ∈ keyAt p c i ↔ (x = 3 * p ∧ (flags c i).1 = true) ∨ (x = 3 * p + 1 ∧ (flags c i).2.1 = true) ∨ (x = 3 * p + 2 ∧ (flags c i).2.2 = true) := by
  unfold keyAt flags
  rw [List.mem_append, List.mem_append]
  refine or_congr ?_ (or_congr ?_ ?_)
  all_goals
    split
    · rename_i h; simp only [h, List.mem_singleton, and_true]
    · rename_i h; simp only [h, List.not_mem_nil, Bool.false_eq_true, and_false]
theorem key_iff (cs : List Cl) (i j : Int) : (keyOf cs i == keyOf cs j) = true ↔ ∀ c ∈ cs, flags c i = flags c j := by
  rw [beq_iff_eq]
  constructor
  · intro h c hc
    obtain ⟨p, hp⟩ := List.mem_iff_getElem?.mp hc
    have hpl := getE hp
    have key : ∀ (t : Int) (q : Nat) (k : Int), t = 3 * (p : Int) + q → q < 3 → (t ∈ keyOf cs k ↔ t ∈ keyAt p c k) := by
      intro t q k ht hq
      unfold keyOf keyUp
      rw [List.mem_flatMap]
      constructor
      · rintro ⟨p', hp', hm⟩
        cases hg : cs[p']? with
        | none => rw [hg] at hm; cases hm
        | some c' =>
          rw [hg] at hm
          have hm2 := (mem_keyAt _ _ _ _).mp hm
          have : p' = p := by rcases hm2 with h | h | h <;> omega
          subst this
          rw [hp] at hg; cases hg
          exact hm
      · intro hm
        exact ⟨p, List.mem_range.mpr hpl, by rw [hp]; exact hm⟩
    have eqb : ∀ (t : Int) (q : Nat), t = 3 * (p : Int) + q → q < 3 → (t ∈ keyAt p c i ↔ t ∈ keyAt p c j) := fun t q h1 h2 => by
      rw [← key t q i h1 h2, ← key t q j h1 h2, h]
    have e0 := eqb (3 * p) 0 (by omega) (by omega)
    have e1 := eqb (3 * p + 1) 1 (by omega) (by omega)
    have e2 := eqb (3 * p + 2) 2 (by omega) (by omega)
    rw [mem_keyAt, mem_keyAt] at e0 e1 e2
    have f0 : (flags c i).1 = (flags c j).1 := by
      rw [Bool.eq_iff_iff]; constructor
      · intro h; rcases e0.mp (.inl ⟨rfl, h⟩) with h | h | h <;> first | exact h.2 | (exfalso; omega)
      · intro h; rcases e0.mpr (.inl ⟨rfl, h⟩) with h | h | h <;> first | exact h.2 | (exfalso; omega)
    have f1 : (flags c i).2.1 = (flags c j).2.1 := by
      rw [Bool.eq_iff_iff]; constructor
      · intro h; rcases e1.mp (.inr (.inl ⟨rfl, h⟩)) with h | h | h <;> first | exact h.2 | (exfalso; omega)
      · intro h; rcases e1.mpr (.inr (.inl ⟨rfl, h⟩)) with h | h | h <;> first | exact h.2 | (exfalso; omega)
    have f2 : (flags c i).2.2 = (flags c j).2.2 := by
      rw [Bool.eq_iff_iff]; constructor
      · intro h; rcases e2.mp (.inr (.inr ⟨rfl, h⟩)) with h | h | h <;> first | exact h.2 | (exfalso; omega)
      · intro h; rcases e2.mpr (.inr (.inr ⟨rfl, h⟩)) with h | h | h <;> first | exact h.2 | (exfalso; omega)
    exact Prod.ext f0 (Prod.ext f1 f2)
  · intro h
    unfold keyOf keyUp
    refine congrArg (fun f => List.flatMap f (List.range cs.length)) (funext fun p => ?_)
    cases hg : cs[p]? with
    | none => rfl
    | some c => exact keyAt_flags _ _ _ _ (h c (List.mem_of_getElem? hg))

theorem le_pos {ls : List Int} (hs : ls.Pairwise (· < ·)) {i : Int} (h : i ∈ ls) (a : Int) : decide (posI ls a ≤ posI ls i) = decide (a ≤ i) := by
  have := pos_le_iff hs h a
  rw [decide_eq_decide, posI_N, posI_N]; omega
theorem lt_pos {ls : List Int} (hs : ls.Pairwise (· < ·)) {i : Int} (h : i ∈ ls) (b : Int) : decide (posI ls i < posI ls b) = decide (i < b) := by
  have := pos_le_iff hs h b
  rw [decide_eq_decide, posI_N, posI_N]; omega
theorem flags_pos {ls : List Int} (hs : ls.Pairwise (· < ·)) {i : Int} (h : i ∈ ls) (c : Cl) : flags (clL ls c) (posI ls i) = flags c i := by
  unfold flags clL
  simp only [le_pos hs h, lt_pos hs h]
  cases hc : (c.s == 1)
  · simp
  · simp [le_pos hs h]
theorem key_peq {ls : List Int} (hs : ls.Pairwise (· < ·)) {i j : Int} (hi : i ∈ ls) (hj : j ∈ ls) (cs0 : List Cl) : (keyOf (cs0.map (clL ls)) (posI ls i) == keyOf (cs0.map (clL ls)) (posI ls j)) = peq cs0 i j := by
  rw [Bool.eq_iff_iff, key_iff, peq_iff]
  constructor
  · intro h c hc
    have := h (clL ls c) (List.mem_map_of_mem hc)
    rwa [flags_pos hs hi, flags_pos hs hj] at this
  · intro h c hc
    obtain ⟨c', hc', rfl⟩ := List.mem_map.mp hc
    rw [flags_pos hs hi, flags_pos hs hj]
    exact h c' hc'
end
section
set_option linter.unusedVariables false
set_option linter.unusedSimpArgs false
set_option linter.unusedSectionVars false

theorem rowL_op (code0 : List Row) (ls : List Int) (G : List (Int × List Int)) (i : Int) : (rowL code0 ls G i).op = opAt code0 i := by
  unfold rowL opAt
  cases h : code0[i.toNat]? with
  | none => rfl
  | some r => cases r <;> rfl

section
variable {code0 : List Row} {cs0 : List Cl} {ls : List Int} {G : List (Int × List Int)} (hN : code0.length ≤ 90) (L : Live code0 cs0 ls G)

theorem code_at (H : Int → Row) (hs : ls.Pairwise (· < ·)) {i : Int} (hi : i ∈ ls) : (ls.map H)[(posI ls i).toNat]? = some (H i) := by
  rw [posI_N, Int.toNat_natCast, List.getElem?_map, (posN_mem hs hi).1]; rfl
theorem okG_pos (hs : ls.Pairwise (· < ·)) {i : Int} (hi : i ∈ ls) : okG ls.length (posI ls i) = true := by
  rw [okG_iff, posI_N]
  have := getE (posN_mem hs hi).1
  omega
theorem opAt_pos (hs : ls.Pairwise (· < ·)) {i : Int} (hi : i ∈ ls) : opAt (ls.map (rowL code0 ls G)) (posI ls i) = opAt code0 i := by
  unfold opAt
  rw [code_at _ hs hi]
  exact rowL_op code0 ls G i
include L
theorem Live.row_at {i : Int} (hi : i ∈ ls) : ∃ r, code0[i.toNat]? = some r ∧ goals0 code0 i = goalsR r ∧ opAt code0 i = r.op := by
  obtain ⟨h0, h1⟩ := L.rng i hi
  obtain ⟨r, h, _, e⟩ := rowAt (code := code0) (j := i) (okG_iff.mpr ⟨h0, h1⟩)
  exact ⟨r, h, by unfold goals0; rw [h], e⟩
theorem Live.br_goal {i : Int} (hi : i ∈ ls) {op n : Int} (hr : code0[i.toNat]? = some (.pl op n)) (hb : isBr op = true) : ∃ g, getG G i = [g] := by
  have h := L.len i hi
  have e : goals0 code0 i = [n] := by unfold goals0; rw [hr]; simp [goalsR, hb]
  rw [e] at h
  match hg : getG G i, h with
  | [g], _ => exact ⟨g, rfl⟩
theorem Live.op56 (wf : ∀ r ∈ code0, r.wf) {i : Int} (hi : i ∈ ls) (h : opAt code0 i = 56) : ∃ n, code0[i.toNat]? = some (.pl 56 n) := by
  obtain ⟨r, hr, _, ho⟩ := L.row_at hi
  rw [h] at ho
  cases r with
  | sw ts => cases ho
  | pl op n => have : op = 56 := ho.symm
               subst this; exact ⟨n, hr⟩
theorem Live.goal56 (wf : ∀ r ∈ code0, r.wf) {i : Int} (hi : i ∈ ls) (h : opAt code0 i = 56) : ∃ g, getG G i = [g] ∧ 0 ≤ g ∧ g < (code0.length : Int) ∧ argAt (ls.map (rowL code0 ls G)) (posI ls i) = posI ls g := by
  obtain ⟨n, hr⟩ := L.op56 wf hi h
  obtain ⟨g, hg⟩ := L.br_goal hi hr rfl
  obtain ⟨h0, h1⟩ := L.goal i hi g (by rw [hg]; simp)
  refine ⟨g, hg, h0, h1, ?_⟩
  unfold argAt
  rw [code_at _ L.srt hi]
  unfold rowL
  rw [hr, hg]
include hN
theorem Live.nx_mem (wf : ∀ r ∈ code0, r.wf) {i : Int} (hi : i ∈ ls) (h : opAt code0 i = 56) : behindI ls ((getG G i).headD 0) ∈ ls := by
  obtain ⟨g, hg, h0, h1, _⟩ := L.goal56 wf hi h
  rw [hg]
  exact (L.behind hN h0 h1).2.1

noncomputable def goL (code0 : List Row) (cs0 : List Cl) (i a : Int) : Bool := opAt code0 a == 56 && peq cs0 a i
noncomputable def nxL (ls : List Int) (G : List (Int × List Int)) (a : Int) : Int := behindI ls ((getG G a).headD 0)
omit hN L in
theorem lchase_count (i goal : Int) : ∀ (k : Nat) (st a : Int), (code0.length : Int) + 2 ≤ k + st → st ≤ (code0.length : Int) → lchase code0 cs0 ls G i goal k st a = (countW (goL code0 cs0 i) (nxL ls G) code0.length k st a).getD (behindI ls goal)
  | 0, st, a, h1, h2 => by omega
  | k + 1, st, a, h1, h2 => by
    have ih := lchase_count i goal k (st + 1) (nxL ls G a)
    simp only [countW, lchase]
    have e : (opAt code0 a == 56 && peq cs0 a i) = goL code0 cs0 i a := rfl
    rw [e]
    cases hg : goL code0 cs0 i a with
    | false => simp
    | true =>
      simp only [if_true]
      by_cases hc : st + 1 > (code0.length : Int)
      · rw [if_pos (by simpa using hc), if_pos (by simpa using hc)]; rfl
      · rw [if_neg (by simpa using hc), if_neg (by simpa using hc)]
        exact ih (by omega) (by omega)
theorem chase_seen (wf : ∀ r ∈ code0, r.wf) {i : Int} (hi : i ∈ ls) (goal : Int) : ∀ (k : Nat) (seen : List Int) (a : Int), a ∈ ls → (∀ s ∈ seen, s ∈ ls) →
    chase (ls.map (rowL code0 ls G)) (cs0.map (clL ls)) (keyOf (cs0.map (clL ls)) (posI ls i)) goal k (seen.map (posI ls)) (posI ls a) = some (((seenW (goL code0 cs0 i) (nxL ls G) k seen a).map (posI ls)).getD goal)
  | 0, seen, a, _, _ => by simp [chase, seenW]
  | k + 1, seen, a, ha, hsn => by
    simp only [chase, seenW]
    rw [opAt_pos L.srt ha, key_peq L.srt ha hi cs0]
    have e : (opAt code0 a == 56 && peq cs0 a i) = goL code0 cs0 i a := rfl
    rw [e]
    cases hg : goL code0 cs0 i a with
    | false => simp
    | true =>
      simp only [if_true]
      have h56 : opAt code0 a = 56 := by
        unfold goL at hg
        have := (Bool.and_eq_true _ _ ▸ hg).1
        simpa using this
      obtain ⟨g, hgg, g0, g1, harg⟩ := L.goal56 wf ha h56
      have hb := L.behind hN g0 g1
      have hnx : nxL ls G a = behindI ls g := by unfold nxL; rw [hgg]; rfl
      have hpe : posI ls g = posI ls (nxL ls G a) := by rw [hnx, posI_N, posI_N, L.pos_behind hN g0 g1]
      have hc : (seen.map (posI ls)).contains (posI ls a) = seen.contains a := by
        rw [Bool.eq_iff_iff, List.contains_iff_mem, List.contains_iff_mem]
        constructor
        · intro h
          obtain ⟨s, hs, q⟩ := List.mem_map.mp h
          have h1 := (posN_mem L.srt (hsn s hs)).1
          have h2 := (posN_mem L.srt ha).1
          rw [posI_N, posI_N] at q
          have q : posN ls s = posN ls a := by omega
          rw [q, h2] at h1
          cases h1; exact hs
        · intro h; exact List.mem_map_of_mem h
      rw [hc]
      cases seen.contains a with
      | true => simp
      | false =>
        have ih := chase_seen wf hi goal k (seen ++ [a]) (nxL ls G a) (hnx ▸ hb.2.1) (fun s hs => by
          rcases List.mem_append.mp hs with h | h
          · exact hsn s h
          · have : s = a := by simpa using h
            exact this ▸ ha)
        rw [List.map_append] at ih
        rw [harg, hpe]
        have hok := okG_pos L.srt (hnx ▸ hb.2.1 : nxL ls G a ∈ ls)
        rw [List.length_map]
        simp only [hok, Bool.false_eq_true, if_false, if_true]
        exact ih
theorem chain_eq (wf : ∀ r ∈ code0, r.wf) {i g : Int} (hi : i ∈ ls) (g0 : 0 ≤ g) (g1 : g < (code0.length : Int)) :
    chainEnd (ls.map (rowL code0 ls G)) (cs0.map (clL ls)) (posI ls i) (posI ls g) = some (posI ls (lendT code0 cs0 ls G i g)) ∧ lendT code0 cs0 ls G i g ∈ ls := by
  have hb := L.behind hN g0 g1
  have hpb : posI ls g = posI ls (behindI ls g) := by rw [posI_N, posI_N, L.pos_behind hN g0 g1]
  have hin : ∀ a ∈ ls, goL code0 cs0 i a = true → nxL ls G a ∈ ls := fun a ha hg => L.nx_mem hN wf ha (by
    unfold goL at hg
    have := (Bool.and_eq_true _ _ ▸ hg).1
    simpa using this)
  have hll := L.llen
  have h1 := chase_seen hN L wf hi (posI ls g) turns [] (behindI ls g) hb.2.1 (fun s hs => by cases hs)
  have h2 := lchase_count (code0 := code0) (cs0 := cs0) (ls := ls) (G := G) i g turns 0 (behindI ls g) (by unfold turns; omega) (by omega)
  have h3 := walks_eq (goL code0 cs0 i) (nxL ls G) ls hin hb.2.1 code0.length turns hll (by unfold turns; omega)
  have h4 := countW_spec (goL code0 cs0 i) (nxL ls G) ls hin hb.2.1 code0.length hll turns 0 (fun u hu => by omega) (by unfold turns; omega)
  have e0 : iter (nxL ls G) 0 (behindI ls g) = behindI ls g := rfl
  have e1 : ((0 : Nat) : Int) = 0 := rfl
  rw [e0, e1] at h4
  unfold chainEnd lendT
  rw [List.length_map, hpb, okG_pos L.srt hb.2.1, if_pos rfl, h2, ← hpb]
  rw [List.map_nil, ← hpb, h3] at h1
  refine ⟨?_, ?_⟩
  · rw [h1]
    cases countW (goL code0 cs0 i) (nxL ls G) code0.length turns 0 (behindI ls g) with
    | none => simp [hpb]
    | some x => simp
  · cases hc : countW (goL code0 cs0 i) (nxL ls G) code0.length turns 0 (behindI ls g) with
    | none => exact hb.2.1
    | some x =>
      rw [hc] at h4
      obtain ⟨t, rfl, _, hg⟩ := h4
      exact iter_mem _ _ ls hin hb.2.1 t hg
end
end
section
set_option linter.unusedVariables false
set_option linter.unusedSimpArgs false
set_option linter.unusedSectionVars false

theorem mapO_all {α β : Type} {f : α → Option β} {h : α → β} : ∀ {l : List α}, (∀ a ∈ l, f a = some (h a)) → mapO f l = some (l.map h)
  | [], _ => rfl
  | a :: l, H => by
    simp only [mapO, H a (by simp)]
    rw [mapO_all fun b hb => H b (by simp [hb])]; rfl

theorem mapO_map_all {α β γ : Type} {f : γ → Option β} {g : α → γ} {h : α → β} : ∀ {l : List α}, (∀ a ∈ l, f (g a) = some (h a)) → mapO f (l.map g) = some (l.map h)
  | [], _ => rfl
  | a :: l, H => by
    simp only [List.map_cons, mapO, H a (by simp)]
    rw [mapO_map_all fun b hb => H b (by simp [hb])]; rfl

theorem getG_out {code0 : List Row} {cs0 : List Cl} {ls : List Int} {G : List (Int × List Int)} {i : Int} (hi : i ∈ ls) :
    lookG (outG code0 cs0 ls G) i = some (if opAt code0 i == 221 then getG G i else (getG G i).map (lendT code0 cs0 ls G i)) ∧
    getG (outG code0 cs0 ls G) i = if opAt code0 i == 221 then getG G i else (getG G i).map (lendT code0 cs0 ls G i) := by
  have := lookG_map (f := fun i => if opAt code0 i == 221 then getG G i else (getG G i).map (lendT code0 cs0 ls G i)) hi
  have e : lookG (outG code0 cs0 ls G) i = some (if opAt code0 i == 221 then getG G i else (getG G i).map (lendT code0 cs0 ls G i)) := this
  exact ⟨e, by unfold getG; rw [e]; rfl⟩

section
variable {code0 : List Row} {cs0 : List Cl} {ls : List Int} {G : List (Int × List Int)} (hN : code0.length ≤ 90) (L : Live code0 cs0 ls G) (wf : ∀ r ∈ code0, r.wf)
include hN L wf
theorem one_eq {i : Int} (hi : i ∈ ls) : threadOne (ls.map (rowL code0 ls G)) (cs0.map (clL ls)) (posI ls i) (rowL code0 ls G i) = some (rowL code0 ls (outG code0 cs0 ls G) i) := by
  obtain ⟨r, hr, _, hop⟩ := L.row_at hi
  have hout := (getG_out (code0 := code0) (cs0 := cs0) (ls := ls) (G := G) hi).2
  have hgo := L.goal i hi
  have ch : ∀ g ∈ getG G i, chainEnd (ls.map (rowL code0 ls G)) (cs0.map (clL ls)) (posI ls i) (posI ls g) = some (posI ls (lendT code0 cs0 ls G i g)) := fun g hg => (chain_eq hN L wf hi (hgo g hg).1 (hgo g hg).2).1
  cases r with
  | sw ts =>
    have hb : (opAt code0 i == 221) = false := by rw [hop]; rfl
    rw [hb] at hout
    simp only [Bool.false_eq_true, if_false] at hout
    have e1 : rowL code0 ls G i = .sw ((getG G i).map (posI ls)) := by unfold rowL; rw [hr]
    have e2 : rowL code0 ls (outG code0 cs0 ls G) i = .sw ((getG (outG code0 cs0 ls G) i).map (posI ls)) := by unfold rowL; rw [hr]
    rw [e1, e2, hout]
    show (mapO (chainEnd (ls.map (rowL code0 ls G)) (cs0.map (clL ls)) (posI ls i)) ((getG G i).map (posI ls))).map Row.sw = _
    rw [mapO_map_all ch, List.map_map]; rfl
  | pl op n =>
    have e1 : rowL code0 ls G i = .pl op (match getG G i with | [] => n | g :: _ => posI ls g) := by unfold rowL; rw [hr]; try rfl
    have e2 : rowL code0 ls (outG code0 cs0 ls G) i = .pl op (match getG (outG code0 cs0 ls G) i with | [] => n | g :: _ => posI ls g) := by unfold rowL; rw [hr]; try rfl
    have hop : opAt code0 i = op := hop
    rw [e1, e2]
    cases hb : isBr op with
    | false =>
      have h0 : getG G i = [] := by
        have := L.len i hi
        have e : goals0 code0 i = [] := by unfold goals0; rw [hr]; simp [goalsR, hb]
        rw [e] at this
        exact List.length_eq_zero_iff.mp this
      have hne : (op == 221) = false := by
        cases q : (op == 221) with
        | false => rfl
        | true => have : op = 221 := by simpa using q
                  subst this; cases hb
      rw [hout, h0, hop, hne]
      simp only [threadOne, hb, hne, Bool.false_and, Bool.false_eq_true, if_false, List.map_nil]
    | true =>
      obtain ⟨g, hg⟩ := L.br_goal hi hr hb
      have hgr := hgo g (by rw [hg]; simp)
      rw [hout, hg, hop]
      cases hne : (op == 221) with
      | false =>
        simp only [threadOne, hb, hne, Bool.not_false, Bool.and_self, if_true, Bool.false_eq_true, if_false, List.map_cons, List.map_nil]
        rw [ch g (by rw [hg]; simp)]; rfl
      | true =>
        have hok : okG (ls.map (rowL code0 ls G)).length (posI ls g) = true := by
          rw [List.length_map]
          have hbh := L.behind hN hgr.1 hgr.2
          have := okG_pos L.srt hbh.2.1
          rwa [posI_N, L.pos_behind hN hgr.1 hgr.2] at this
        simp only [threadOne, hb, hne, Bool.not_true, Bool.and_false, Bool.false_eq_true, if_false, if_true, hok]
end
end
section
set_option linter.unusedVariables false
set_option linter.unusedSimpArgs false
set_option linter.unusedSectionVars false

theorem edges_cl (ls : List Int) (c : Cl) : edgesOf (clL ls c) = (edgesOf c).map (posI ls) := by
  unfold edgesOf clL
  cases h : (c.s == 1) <;> simp [h]

section
variable {code0 : List Row} {cs0 : List Cl} {ls : List Int} {G : List (Int × List Int)} (hN : code0.length ≤ 90) (L : Live code0 cs0 ls G) (wf : ∀ r ∈ code0, r.wf)
include hN L
theorem live_out (wf : ∀ r ∈ code0, r.wf) : Live code0 cs0 ls (outG code0 cs0 ls G) where
  srt := L.srt
  rng := L.rng
  last := L.last
  edge := L.edge
  look := fun a ha => by obtain ⟨h1, h2⟩ := getG_out (code0 := code0) (cs0 := cs0) (G := G) ha; rw [h1, h2]
  len := fun a ha => by
    rw [(getG_out (code0 := code0) (cs0 := cs0) (G := G) ha).2, ← L.len a ha]
    split
    · rfl
    · rw [List.length_map]
  goal := fun a ha g hg => by
    rw [(getG_out (code0 := code0) (cs0 := cs0) (G := G) ha).2] at hg
    split at hg
    · exact L.goal a ha g hg
    · obtain ⟨g', hg', rfl⟩ := List.mem_map.mp hg
      obtain ⟨h0, h1⟩ := L.goal a ha g' hg'
      exact L.rng _ (chain_eq hN L wf ha h0 h1).2
theorem edge_pos {i : Int} (hi : i ∈ ls) : isEdge (cs0.map (clL ls)) (posI ls i) = (allEdges cs0).contains i := by
  rw [Bool.eq_iff_iff, List.contains_iff_mem]
  unfold isEdge allEdges
  rw [List.any_map, List.any_eq_true, List.mem_flatMap]
  refine exists_congr fun c => and_congr_right fun hc => ?_
  show (edgesOf (clL ls c)).contains (posI ls i) = true ↔ _
  rw [List.contains_iff_mem, edges_cl]
  constructor
  · intro h
    obtain ⟨e, he, q⟩ := List.mem_map.mp h
    obtain ⟨h0, h1, h2⟩ := L.edge c hc e he
    have hp := (posN_mem L.srt hi).1
    rw [posI_N, posI_N] at q
    have q : posN ls e = posN ls i := by omega
    by_cases hl : e < (code0.length : Int)
    · have he' := (posN_mem L.srt (h2 hl)).1
      rw [q, hp] at he'
      cases he'; exact he
    · exfalso
      have := posN_all (ls := ls) (g := e) fun a ha => by have := (L.rng a ha).2; omega
      have := getE hp
      omega
  · intro h; exact List.mem_map_of_mem h
include wf
theorem kept_eq {i : Int} (hi : i ∈ ls) : keepB (ls.map (rowL code0 ls (outG code0 cs0 ls G))) (cs0.map (clL ls)) (posN ls i) = stayB code0 cs0 ls (outG code0 cs0 ls G) i := by
  have LO := live_out hN L wf
  unfold keepB stayB
  rw [← posI_N, opAt_pos L.srt hi, List.length_map]
  cases h56 : (opAt code0 i == 56) with
  | false => simp
  | true =>
    have h56 : opAt code0 i = 56 := by simpa using h56
    obtain ⟨x, hx, x0, x1, harg⟩ := LO.goal56 wf hi h56
    have hxls : x ∈ ls := by
      obtain ⟨g, hg, g0, g1, _⟩ := L.goal56 wf hi h56
      have := (getG_out (code0 := code0) (cs0 := cs0) (G := G) hi).2
      rw [hx, h56, hg] at this
      have e : x = lendT code0 cs0 ls G i g := by simpa using this
      rw [e]; exact (chain_eq hN L wf hi g0 g1).2
    have hps := posN_mem L.srt hi
    obtain ⟨i0, i1⟩ := L.rng i hi
    rw [harg, edge_pos hN L hi, hx]
    simp only [List.headD_cons, Bool.not_true, Bool.false_or, Bool.true_and]
    by_cases hl : i + 1 < (code0.length : Int)
    · obtain ⟨hb1, hb2, hb3⟩ := L.behind hN (g := i + 1) (by omega) hl
      generalize behindI ls (i + 1) = b at hb1 hb2 hb3
      have hpb := posN_mem L.srt hb2
      have e1 : posN ls b = posN ls i + 1 := by rw [(posN_get L.srt hb1).1, hps.2]
      have e2 : posI ls i + 1 = posI ls b := by rw [posI_N, posI_N, e1]; omega
      have e3 : decide (posI ls b < (ls.length : Int)) = true := by
        have := getE hpb.1
        rw [decide_eq_true_eq, posI_N]; omega
      have e4 : (posI ls x == posI ls b) = (x == b) := by
        rw [Bool.eq_iff_iff, beq_iff_eq, beq_iff_eq]
        constructor
        · intro q
          rw [posI_N, posI_N] at q
          have q : posN ls x = posN ls b := by omega
          have hpx := (posN_mem L.srt hxls).1
          rw [q, hpb.1] at hpx
          cases hpx; rfl
        · intro q; rw [q]
      rw [e2, e3, e4, edge_pos hN L hb2, Bool.and_true]
    · have hb := behindI_none (ls := ls) (n := i + 1) fun a ha => by have := (L.rng a ha).2; omega
      rw [hb]
      have e1 : decide (posI ls i + 1 < (ls.length : Int)) = false := by
        have h1 := posN_all (ls := ls) (g := i + 1) fun a ha => by have := (L.rng a ha).2; omega
        rw [decide_eq_false_iff_not, posI_N]; omega
      have e2 : (x == (999 : Int)) = false := by
        rw [beq_eq_false_iff_ne]; omega
      rw [e1, e2]; simp
theorem rows_eq : rowsT (ls.map (rowL code0 ls G)) (cs0.map (clL ls)) = some (ls.map (rowL code0 ls (outG code0 cs0 ls G))) := by
  unfold rowsT
  rw [mapO_all (h := fun j => rowL code0 ls (outG code0 cs0 ls G) ((ls[j]?).getD 0))]
  · congr 1
    apply List.ext_getElem?
    intro j
    rw [List.length_map, List.getElem?_map, List.getElem?_map]
    by_cases hj : j < ls.length
    · rw [List.getElem?_range hj, Option.map_some, List.getElem?_eq_getElem hj]; rfl
    · rw [List.getElem?_eq_none (by simpa using hj), List.getElem?_eq_none (by simpa using hj)]; rfl
  · intro j hj
    rw [List.length_map] at hj
    have hj := List.mem_range.mp hj
    have hg : ls[j]? = some ls[j] := List.getElem?_eq_getElem hj
    have hi : ls[j] ∈ ls := List.getElem_mem hj
    have hp := (posN_get L.srt hg).1
    have e1 : (ls.map (rowL code0 ls G))[j]? = some (rowL code0 ls G ls[j]) := by rw [List.getElem?_map, hg]; rfl
    have e2 : (j : Int) = posI ls ls[j] := by rw [posI_N, hp]
    rw [e1, hg, Option.bind_some, e2, one_eq hN L wf hi]; rfl
theorem keptT_eq : keptT (ls.map (rowL code0 ls (outG code0 cs0 ls G))) (cs0.map (clL ls)) = ls.map (stayB code0 cs0 ls (outG code0 cs0 ls G)) := by
  unfold keptT
  apply List.ext_getElem?
  intro j
  rw [List.length_map, List.getElem?_map, List.getElem?_map]
  by_cases hj : j < ls.length
  · have hg : ls[j]? = some ls[j] := List.getElem?_eq_getElem hj
    have := kept_eq hN L wf (List.getElem_mem hj)
    rw [(posN_get L.srt hg).1] at this
    rw [List.getElem?_range hj, hg]
    simp only [Option.map_some, this]
  · rw [List.getElem?_eq_none (by simpa using hj), List.getElem?_eq_none (by simpa using hj)]; rfl
omit hN L wf in
theorem cnt_pos (B : Int → Bool) (hs : ls.Pairwise (· < ·)) (g : Int) : cnt (ls.map B) (posN ls g) = posI (ls.filter B) g := by
  unfold cnt posI
  rw [← List.map_take, take_pos g hs, List.filter_filter]
  congr 1
  rw [show (fun a => decide (a < g) && B a) = (fun a => B a && decide (a < g)) from by funext a; exact Bool.and_comm _ _, ← List.filter_filter]
  generalize (ls.filter fun n => decide (n < g)) = l
  induction l with
  | nil => rfl
  | cons a l ih =>
    rw [List.map_cons, List.count_cons, List.filter_cons, ih]
    cases B a <;> simp
omit hN L wf in
theorem at_pos (B : Int → Bool) (hs : ls.Pairwise (· < ·)) (g : Int) : at_ (placesOf (ls.map B)) (posI ls g) = posI (ls.filter B) g := by
  rw [at_places, posI_N, Int.toNat_natCast, cnt_pos B hs]
  rw [List.length_map, posI_N]
  have := posN_le ls g
  exact ⟨by omega, by omega⟩
omit hN L wf in
theorem mv_cl (B : Int → Bool) (hs : ls.Pairwise (· < ·)) (c : Cl) : mvCl (placesOf (ls.map B)) (clL ls c) = clL (ls.filter B) c := by
  unfold mvCl clL
  simp only [at_pos B hs]
  cases h : (c.s == 1) <;> simp [h, at_pos B hs]
omit hN wf in
theorem mv_row (B : Int → Bool) {i : Int} (hi : i ∈ ls) : mvRow (placesOf (ls.map B)) (rowL code0 ls G i) = rowL code0 (ls.filter B) G i := by
  obtain ⟨r, hr, _, hop⟩ := L.row_at hi
  unfold rowL
  rw [hr]
  cases r with
  | sw ts =>
    simp only [mvRow, List.map_map]
    congr 1
    exact List.map_congr_left fun g _ => at_pos B L.srt g
  | pl op n =>
    cases hb : isBr op with
    | true =>
      obtain ⟨g, hg⟩ := L.br_goal hi hr hb
      simp only [hg, mvRow, hb, if_true, at_pos B L.srt]
    | false =>
      have h0 : getG G i = [] := by
        have := L.len i hi
        have e : goals0 code0 i = [] := by unfold goals0; rw [hr]; simp [goalsR, hb]
        rw [e] at this
        exact List.length_eq_zero_iff.mp this
      simp only [h0, mvRow, hb, Bool.false_eq_true, if_false]
theorem round_eq : threadRound (ls.map (rowL code0 ls G)) (cs0.map (clL ls)) =
    some ((stayL code0 cs0 ls (outG code0 cs0 ls G)).map (rowL code0 (stayL code0 cs0 ls (outG code0 cs0 ls G)) (outG code0 cs0 ls G)), cs0.map (clL (stayL code0 cs0 ls (outG code0 cs0 ls G)))) := by
  have LO := live_out hN L wf
  unfold threadRound
  rw [rows_eq hN L wf, Option.map_some, keptT_eq hN L wf]
  congr 2
  · unfold keepR stayL
    rw [List.zip_map', List.filter_map, List.map_map]
    refine List.map_congr_left fun i hi => ?_
    exact mv_row LO _ (List.mem_filter.mp hi).1
  · rw [List.map_map]
    exact List.map_congr_left fun c _ => mv_cl _ L.srt c
theorem live_next : Live code0 cs0 (stayL code0 cs0 ls (outG code0 cs0 ls G)) (outG code0 cs0 ls G) := by
  have LO := live_out hN L wf
  have sub : ∀ a, a ∈ stayL code0 cs0 ls (outG code0 cs0 ls G) → a ∈ ls := fun a ha => (List.mem_filter.mp ha).1
  refine { srt := L.srt.filter _, rng := fun a ha => L.rng a (sub a ha), last := fun g h0 h1 => ?_, edge := fun c hc e he => ?_, look := fun a ha => LO.look a (sub a ha), len := fun a ha => LO.len a (sub a ha), goal := fun a ha => LO.goal a (sub a ha) }
  · have hm := L.last g h0 h1
    refine List.mem_filter.mpr ⟨hm, ?_⟩
    unfold stayB
    have hb := behindI_none (ls := ls) (n := ((code0.length : Int) - 1) + 1) fun a ha => by have := (L.rng a ha).2; omega
    rw [hb]
    cases h56 : (opAt code0 ((code0.length : Int) - 1) == 56) with
    | false => simp
    | true =>
      obtain ⟨x, hx, x0, x1, _⟩ := LO.goal56 wf hm (by simpa using h56)
      rw [hx]
      have : (x == (999 : Int)) = false := by rw [beq_eq_false_iff_ne]; omega
      simp [this]
  · obtain ⟨h0, h1, h2⟩ := L.edge c hc e he
    refine ⟨h0, h1, fun hl => List.mem_filter.mpr ⟨h2 hl, ?_⟩⟩
    have : (allEdges cs0).contains e = true := List.contains_iff_mem.mpr (List.mem_flatMap.mpr ⟨c, hc, he⟩)
    unfold stayB
    rw [this]; simp
end
end
section
set_option linter.unusedVariables false
set_option linter.unusedSimpArgs false
set_option linter.unusedSectionVars false

section
variable {code0 : List Row} {cs0 : List Cl} (hN : code0.length ≤ 90) (wf : ∀ r ∈ code0, r.wf)
include hN wf
theorem rounds_eq : ∀ (k : Nat) (ls : List Int) (G : List (Int × List Int)), Live code0 cs0 ls G → ls.length < k →
    rounds k (ls.map (rowL code0 ls G)) (cs0.map (clL ls)) =
      (let p := lloop code0 cs0 k ls (stayL code0 cs0 ls (outG code0 cs0 ls G)) (outG code0 cs0 ls G); some (p.1.map (rowL code0 p.1 p.2), cs0.map (clL p.1)))
  | 0, ls, G, L, hk => by omega
  | k + 1, ls, G, L, hk => by
    have hr := round_eq hN L wf
    have Ln := live_next hN L wf
    have hsub : (stayL code0 cs0 ls (outG code0 cs0 ls G)).Sublist ls := List.filter_sublist
    generalize hS : stayL code0 cs0 ls (outG code0 cs0 ls G) = S at hr Ln hsub
    generalize hO : outG code0 cs0 ls G = O at hr Ln hS
    simp only [rounds, hr, lloop, List.length_map]
    by_cases q : S.length < ls.length
    · rw [if_pos q, if_pos q]
      exact rounds_eq k S O Ln (by omega)
    · rw [if_neg q, if_neg q]
      have : S = ls := hsub.eq_of_length_le (by omega)
      rw [this]

theorem good_parts (h : goodT code0 cs0 = true) : cs0.any (clBad code0) = false ∧ (∀ c ∈ cs0, ∀ e ∈ edgesOf c, 0 ≤ e ∧ e ≤ (code0.length : Int)) ∧ ∀ r ∈ code0, ∀ g ∈ goalsR r, 0 ≤ g ∧ g < (code0.length : Int) := by
  unfold goodT at h
  simp only [Bool.and_eq_true, Bool.not_eq_true'] at h
  obtain ⟨h1, h2, h3⟩ := h
  have h2' : ∀ c ∈ cs0, ∀ e ∈ edgesOf c, edgeBad code0 e = false := fun c hc e he => by
    have := List.any_eq_false.mp h2 e (List.mem_flatMap.mpr ⟨c, hc, he⟩)
    simpa using this
  refine ⟨?_, fun c hc e he => ?_, fun r hr g hg => ?_⟩
  · rw [List.any_eq_false]
    intro c hc
    unfold clBad
    have a := List.any_eq_false.mp h1 c hc
    have b : (edgesOf c).any (edgeBad code0) = false := by
      rw [List.any_eq_false]; intro e he; rw [h2' c hc e he]; decide
    rw [b, Bool.or_false]; exact a
  · have := h2' c hc e he
    simp only [edgeBad, Bool.or_eq_false_iff, decide_eq_false_iff_not] at this
    omega
  · have := List.any_eq_false.mp h3 r hr
    have := List.any_eq_false.mp (Bool.eq_false_iff.mpr this) g hg
    have := okG_iff.mp (by simpa using this)
    exact this

theorem bad_parts (h : goodT code0 cs0 = false) (h1 : cs0.any (clBad code0) = false) : ∃ r ∈ code0, ∃ g ∈ goalsR r, okG code0.length g = false := by
  have a1 : cs0.any (clBad0 code0) = false := by
    rw [List.any_eq_false]; intro c hc
    have := List.any_eq_false.mp h1 c hc
    unfold clBad at this
    simp only [Bool.or_eq_true, not_or] at this
    exact this.1
  have a2 : (allEdges cs0).any (edgeBad code0) = false := by
    rw [List.any_eq_false]; intro e he
    obtain ⟨c, hc, he⟩ := List.mem_flatMap.mp he
    have := List.any_eq_false.mp h1 c hc
    unfold clBad at this
    simp only [Bool.or_eq_true, not_or, List.any_eq_true, not_exists, not_and] at this
    exact this.2 e he
  unfold goodT at h
  rw [a1, a2] at h
  simp only [Bool.not_false, Bool.true_and, Bool.not_eq_false'] at h
  obtain ⟨r, hr, h⟩ := List.any_eq_true.mp h
  obtain ⟨g, hg, h⟩ := List.any_eq_true.mp h
  exact ⟨r, hr, g, hg, by simpa using h⟩

noncomputable def ls0 (code0 : List Row) : List Int := (List.range code0.length).map Int.ofNat
noncomputable def G0 (code0 : List Row) : List (Int × List Int) := (ls0 code0).map fun i => (i, goals0 code0 i)
omit hN wf in
theorem mem_ls0 {a : Int} : a ∈ ls0 code0 ↔ 0 ≤ a ∧ a < (code0.length : Int) := by
  unfold ls0
  rw [List.mem_map]
  constructor
  · rintro ⟨j, hj, rfl⟩
    have := List.mem_range.mp hj
    exact ⟨by simp, by simp; omega⟩
  · rintro ⟨h0, h1⟩
    exact ⟨a.toNat, List.mem_range.mpr (by omega), by simp; omega⟩
omit hN wf in
theorem srt_ls0 : (ls0 code0).Pairwise (· < ·) := List.Pairwise.map _ (fun a b h => by simpa using h) List.pairwise_lt_range
omit hN wf in
theorem get_ls0 {j : Nat} (hj : j < code0.length) : (ls0 code0)[j]? = some (j : Int) := by
  unfold ls0; rw [List.getElem?_map, List.getElem?_range hj]; rfl
omit hN wf in
theorem pos_ls0 {g : Int} (h0 : 0 ≤ g) (h1 : g ≤ (code0.length : Int)) : posI (ls0 code0) g = g := by
  rw [posI_N]
  by_cases q : g < (code0.length : Int)
  · have := (posN_get srt_ls0 (get_ls0 (code0 := code0) (j := g.toNat) (by omega))).1
    rw [show ((g.toNat : Nat) : Int) = g by omega] at this
    omega
  · have := posN_all (ls := ls0 code0) (g := g) fun a ha => by have := (mem_ls0.mp ha).2; omega
    rw [this]; unfold ls0; simp; omega
omit hN wf in
theorem getG0 {a : Int} (ha : a ∈ ls0 code0) : lookG (G0 code0) a = some (goals0 code0 a) ∧ getG (G0 code0) a = goals0 code0 a := by
  have := lookG_map (f := goals0 code0) ha
  have e : lookG (G0 code0) a = some (goals0 code0 a) := this
  exact ⟨e, by unfold getG; rw [e]; rfl⟩
omit wf in
theorem live0 (h : goodT code0 cs0 = true) (wf : ∀ r ∈ code0, r.wf) : Live code0 cs0 (ls0 code0) (G0 code0) := by
  obtain ⟨h1, h2, h3⟩ := good_parts hN wf h
  refine { srt := srt_ls0, rng := fun a ha => mem_ls0.mp ha, last := fun g h0 h1 => mem_ls0.mpr (by omega), edge := fun c hc e he => ?_, look := fun a ha => by rw [(getG0 ha).1, (getG0 ha).2], len := fun a ha => by rw [(getG0 ha).2], goal := fun a ha g hg => ?_ }
  · obtain ⟨a, b⟩ := h2 c hc e he
    exact ⟨a, b, fun hl => mem_ls0.mpr ⟨a, hl⟩⟩
  · rw [(getG0 ha).2] at hg
    unfold goals0 at hg
    cases hr : code0[a.toNat]? with
    | none => rw [hr] at hg; cases hg
    | some r => rw [hr] at hg; exact h3 r (List.mem_of_getElem? hr) g hg
theorem code_ls0 (h : goodT code0 cs0 = true) : (ls0 code0).map (rowL code0 (ls0 code0) (G0 code0)) = code0 := by
  obtain ⟨h1, h2, h3⟩ := good_parts hN wf h
  apply List.ext_getElem?
  intro j
  rw [List.getElem?_map]
  by_cases hj : j < code0.length
  · rw [get_ls0 hj, Option.map_some, List.getElem?_eq_getElem hj]
    congr 1
    have hm : (j : Int) ∈ ls0 code0 := mem_ls0.mpr ⟨by omega, by omega⟩
    have hr : code0[j]? = some code0[j] := List.getElem?_eq_getElem hj
    have hg := h3 _ (List.getElem_mem hj)
    have e := (getG0 hm).2
    unfold goals0 at e
    rw [Int.toNat_natCast, hr] at e
    unfold rowL
    rw [Int.toNat_natCast, hr]
    generalize code0[j] = r at hg e
    cases r with
    | sw ts =>
      have e : getG (G0 code0) (j : Int) = ts := e
      simp only [e]
      congr 1
      have : ts.map (posI (ls0 code0)) = ts.map id := List.map_congr_left fun g hg' => pos_ls0 (hg g hg').1 (by have := (hg g hg').2; omega)
      rw [this, List.map_id]
    | pl op n =>
      have e : getG (G0 code0) (j : Int) = if isBr op then [n] else [] := e
      simp only [e]
      cases hb : isBr op with
      | false => rfl
      | true =>
        have := hg n (by simp [goalsR, hb])
        simp only [if_true]
        rw [pos_ls0 this.1 (by omega)]
  · rw [List.getElem?_eq_none (l := code0) (by omega), List.getElem?_eq_none (by unfold ls0; simp; omega)]; rfl
theorem cls_ls0 (h : goodT code0 cs0 = true) : cs0.map (clL (ls0 code0)) = cs0 := by
  obtain ⟨h1, h2, h3⟩ := good_parts hN wf h
  have : cs0.map (clL (ls0 code0)) = cs0.map id := by
    refine List.map_congr_left fun c hc => ?_
    have he := h2 c hc
    have p : ∀ e ∈ edgesOf c, posI (ls0 code0) e = e := fun e hm => pos_ls0 (he e hm).1 (he e hm).2
    unfold clL
    unfold edgesOf at p
    cases hs : (c.s == 1) with
    | true =>
      rw [hs] at p
      simp only [if_true, List.forall_mem_cons] at p
      obtain ⟨p1, p2, p3, p4, p5, _⟩ := p
      simp only [p1, p2, p3, p4, p5, if_true]; rfl
    | false =>
      rw [hs] at p
      simp only [Bool.false_eq_true, if_false, List.forall_mem_cons] at p
      obtain ⟨p1, p2, p3, p4, _⟩ := p
      simp only [p1, p2, p3, p4, Bool.false_eq_true, if_false]; rfl
  rw [this, List.map_id]
theorem chainEnd_bad {code : List Row} {cs : List Cl} {i g x : Int} (h : chainEnd code cs i g = some x) : okG code.length g = true := by
  unfold chainEnd at h
  split at h
  · assumption
  · cases h
theorem one_bad {code : List Row} {cs : List Cl} {i : Int} {r r' : Row} (h : threadOne code cs i r = some r') : ∀ g ∈ goalsR r, okG code.length g = true := by
  cases r with
  | sw ts =>
    intro g hg
    obtain ⟨rs, h, _⟩ := Option.map_eq_some_iff.mp h
    obtain ⟨k, hk⟩ := List.mem_iff_getElem?.mp hg
    obtain ⟨b, _, hb⟩ := (mapO_some h).2 k g hk
    exact chainEnd_bad hN wf hb
  | pl op n =>
    intro g hg
    simp only [goalsR] at hg
    simp only [threadOne] at h
    cases hb : isBr op with
    | false => rw [hb] at hg; cases hg
    | true =>
      rw [hb] at hg h
      have : g = n := by simpa using hg
      subst this
      cases h2 : (op == 221) with
      | false =>
        rw [h2] at h
        simp only [Bool.not_false, Bool.and_self, if_true] at h
        obtain ⟨x, h, _⟩ := Option.map_eq_some_iff.mp h
        exact chainEnd_bad hN wf h
      | true =>
        rw [h2] at h
        simp only [Bool.not_true, Bool.and_false, Bool.false_eq_true, if_false, if_true] at h
        split at h
        · assumption
        · cases h
omit hN wf in
theorem rounds_none {k : Nat} {code : List Row} {cs : List Cl} (h : threadRound code cs = none) : rounds (k + 1) code cs = none := by simp only [rounds, h]
theorem threads_eq : threadIn code0 cs0 = if goodT code0 cs0 then some (lawT code0 cs0) else none := by
  unfold threadIn
  cases hg : goodT code0 cs0 with
  | true =>
    have L := live0 hN hg wf
    rw [(good_parts hN wf hg).1]
    simp only [Bool.false_eq_true, if_false, if_true]
    have h := rounds_eq hN wf turns (ls0 code0) (G0 code0) L (by unfold ls0 turns; simp; omega)
    rw [code_ls0 hN wf hg, cls_ls0 hN wf hg] at h
    rw [h]; rfl
  | false =>
    simp only [Bool.false_eq_true, if_false]
    split
    · rfl
    · rename_i hb
      obtain ⟨r, hr, g, hgm, hok⟩ := bad_parts hN wf hg (by simpa using hb)
      cases ht : threadRound code0 cs0 with
      | none => exact rounds_none (k := 99) ht
      | some p =>
        exfalso
        obtain ⟨rs, h, _⟩ := Option.map_eq_some_iff.mp ht
        obtain ⟨k, hk⟩ := List.mem_iff_getElem?.mp hr
        obtain ⟨b, _, hb⟩ := (mapO_some h).2 k k (List.getElem?_range (getE hk))
        rw [hk] at hb
        have := one_bad hN wf hb g hgm
        rw [hok] at this; cases this
end
end
section
set_option maxRecDepth 100000
set_option linter.unusedVariables false
section
variable {prog : Program} {w : World} {BC : Addr} {T : Tab} {dep : Nat} {base xb : Heap} {mg mb : Str → Option Value} {A : Around} {env : Env}
variable {n : Nat} {sc : Scope} {Γ : Vars} {old z : Kept} {s : Shared} {Q : Flow → Shared → Prop} {E : Value → Shared → Prop}

/-- the frame's own namespace has come through up to its slots, all else whole -/
theorem St.caught {h h' : Heap} (S : St prog w base xb [] env sc old z Γ h) (k : ∀ b o, b ≠ env.locals → h.get? b = some o → h'.get? b = some o) (hn : ∀ m, h.Ns env.locals m → h'.Ns env.locals m) : St prog w base xb [] env sc old z Γ h' := by
  have hcell : ∀ {c v}, h.IsCell c v → h'.IsCell c v := fun {c v} hv => by
    obtain ⟨o, ho, hd⟩ := hv
    refine ⟨o, k _ _ (fun q => ?_) ho, hd⟩
    obtain ⟨m, o', es, ep, ho', hd', _⟩ := S.ns
    rw [q, ho'] at ho; cases ho; rw [hd'] at hd; cases hd
  have hH : ∀ {y v}, Holds env h y v → Holds env h' y v := fun {y v} H => by
    rcases H with ⟨q, m, hm, hv⟩ | ⟨q0, q, c, hc, hv⟩
    · exact .inl ⟨q, m, hn m hm, hv⟩
    · exact .inr ⟨q0, q, c, hc, hcell hv⟩
  have hH' : ∀ {y d v}, Γ y = some (d, true) → Holds env h' y v → Holds env h y v := fun {y d v} e H => by
    obtain ⟨_, v', K, _, _⟩ := S.vals y d true e
    have := (hH K).fun H; subst this; exact K
  refine { S with pl := ?_, keep := ?_, on := ?_, ns := ?_, vals := ?_, sep := ?_ }
  · intro y hy
    obtain ⟨p, P, q1, q2⟩ := S.pl y hy
    refine ⟨p, ?_, q1, q2⟩
    rcases P with ⟨q, e, m, hm⟩ | ⟨q0, q, hc, v, hv⟩
    · subst e; exact .inl ⟨q, rfl, m, hn m hm⟩
    · exact .inr ⟨q0, q, hc, v, hcell hv⟩
  · exact fun a o e => k a o (fun q => by rw [q, S.Lold.1] at e; cases e) (S.keep a o e)
  · exact fun a o e => k a o (fun q => by rw [q, S.Lold.2] at e; cases e) (S.on a o e)
  · obtain ⟨m, hm⟩ := S.ns; exact ⟨m, hn m hm⟩
  · intro y d₁ own₁ ey
    obtain ⟨hd, v, K, r, o⟩ := S.vals y d₁ own₁ ey
    refine ⟨hd, v, hH K, r, fun t => ?_⟩
    obtain ⟨b, e, b1, b2, b3, Ob⟩ := o t
    exact ⟨b, e, b1, b2, b3, Ob.at z.le_refl fun ob eb => k _ _ b3 eb⟩
  · intro y y' d₁ d₂ b e1 e2 H1 H2
    exact S.sep y y' _ _ b e1 e2 (hH' e1 H1) (hH' e2 H2)

theorem ex_try (hR : Room A [env] dep) (W : World0 prog w BC T dep base mg mb) (hBC : mg "BadCode" = some (.ref BC)) {nm q : Str} {N Rr : Addr} {bs sub : List Value} {k0 k1 k2 k3 k5 : Option Value} (hC : base.get? BC = some (clsO nm q BC N Rr bs sub k0 k1 k2 k3 k5))
    (S : St prog w base xb [] env sc old z Γ s.heap) {x : Str} {xp xp2 np cp pos pos2 hpos tpos : Pos} {i : Nat} {e : Expr} (hx : storable sc x = true) (hs : swapsWith e (some (.Name x xp)) pos.line env = pure false) (hg : isGlob sc "BadCode" = true)
    (F : FineO prog w BC base xb [] env sc old z s Q E (match ev T n sc Γ e with | .ok d => .nxt (Γ.set x d false) | .exc => .nxt (Γ.set x .none false) | .bad => .bad)) :
    wpAny (model prog w) A (exec (.Try [.Assign [.Name x xp] e pos] [.ExceptHandler (some (.Name "BadCode" np)) none [.Assign [.Name x xp2] (.Constant .none i cp) pos2] hpos] [] [] tpos) env) Q E s := by
  obtain ⟨hp, g, d0, tk0, os⟩ := s
  dsimp only at S
  have hLx : ∀ o, xb.get? env.locals ≠ some o := fun o q => by have := S.hxb _ _ q; rw [S.Lold.1] at this; cases this
  -- what the body may not touch: all but the frame's own namespace
  have N0 := S.now
  have hff : hp.FunFrames (hideAll hp [env.locals]) [env] := funFrames_hide N0.ff fun e' he' a ha => by
    have : e' = env := by simpa using he'
    subst this
    rw [S.frame] at ha; cases ha; exact List.mem_cons_self
  have Nx : Now prog w base (hideAll hp [env.locals]) [env] env sc z Γ hp := { N0 with hxb := fun a o e => of_hideAll _ e, ff := hff }
  refine wpAny_Try_except (wpAny_execs_cons (wpAny_Assign_Name ((snd hR W n).ev _ _ _ _ _ _ _ _ Nx ?_) hs))
  cases hv : ev T n sc Γ e with
  | bad => rw [hv] at F; exact F.elim
  | ok d =>
    rw [hv] at F
    intro v z' h' tk X r
    have S1 := S.ext X
    refine S1.store (s := ⟨h', g, d0, tk, os⟩) hx r fun h2 tk2 S2 => wpAny_execs_nil ?_
    exact wpAny_execs_nil (F z' h2 tk2 (X.tr S.keep) S2)
  | exc =>
    rw [hv] at F
    rintro e1 h1 tk1 ⟨⟨a0, hfl⟩, hup⟩
    refine wpAny_looks_onW hR.fr S.frame hfl fun h₄ hheld₄ hsm₄ => ?_
    refine wpAny_landsW hheld₄ fun h₅ hfl₅ hsm₅' => ?_
    have up5 : hp.UpToSlots h₅ := (hup.trans hsm₄).trans hsm₅'
    have keepx : ∀ {h' : Heap}, (hideAll hp [env.locals]).StaysIn h' → ∀ b o, b ≠ env.locals → hp.get? b = some o → h'.get? b = some o := fun k b o nb e => k b o (hideAll_get _ e (by simpa using nb))
    have S5 := S.caught (keepx hfl₅.1) fun m hm => up5.ns hm
    obtain ⟨ob, hob, hobc⟩ := hfl₅.there
    have N5 := S5.now
    refine wpAny_handleBy_cons (codeAny_handlers_test (glob_rule W N5 hg hBC (by decide) ?_)) (by intro q; cases q)
    refine wpAny_excMatches_sub_self (N5.hb _ _ hC) hob hobc (by rfl) (codeAny_handlers_suite ?_)
    refine lands_againW hfl₅ fun h₆ hfl₆ hsm₆ => ?_
    have S6 := S.caught (keepx hfl₆.1) fun m hm => (up5.trans hsm₆).ns hm
    refine wpAny_noRaise (wpAny_execs_cons (wpAny_Assign_Name (wpAny_Constant_none ?_) rfl))
    refine S6.store (s := ⟨h₆, g, d0, tk1, os⟩) hx .none fun h2 tk2 S2 => wpAny_execs_nil ?_
    exact F z h2 tk2 (Tr.refl _ _) S2
end
end
section
set_option maxRecDepth 100000
set_option linter.unusedVariables false

-- the table of sorts
noncomputable def entKV (e : DictEntry) : Int × Value := (match e.key with | .int k _ => k | _ => 0, e.val)
noncomputable def entKI (e : DictEntry) : Int × Int := (match e.key with | .int k _ => k | _ => 0, match e.val with | .int v _ => v | _ => 0)
noncomputable def entOk (e : DictEntry) : Bool := match e.key, e.val with
  | .int k _, .int _ _ => decide (e.hash = hashInt k)
  | _, _ => false
noncomputable def sortsL : List (Int × Int) := tabE.map entKI
theorem sorts_ok : tabE.all entOk = true := by kernel_rfl
theorem sorts_nodup : decide ((sortsL.map (·.1)).Nodup) = true := by kernel_rfl
theorem sorts_br1 : sortsL.all (fun p => (p.2 == 5) == isBr p.1) = true := by kernel_rfl
theorem sorts_br2 : ([56, 57, 58, 59, 60, 61, 62, 63, 64, 65, 66, 67, 68, 221] : List Int).all (fun op => (sortsL.lookup op).isSome) = true := by kernel_rfl
theorem lookup_mem {α β : Type} [BEq α] [LawfulBEq α] {a : α} {b : β} : ∀ {l : List (α × β)}, l.lookup a = some b → (a, b) ∈ l
  | (x, y) :: l, h => by
    rw [List.lookup_cons] at h
    cases q : (a == x) with
    | true => rw [q] at h; cases h; rw [eq_of_beq q]; exact .head _
    | false => rw [q] at h; exact .tail _ (lookup_mem h)
theorem sorts_isBr (op : Int) : ((sortsL.lookup op).getD (-1) == 5) = isBr op := by
  cases h : sortsL.lookup op with
  | some v =>
    have := List.all_eq_true.mp sorts_br1 _ (lookup_mem h)
    exact beq_iff_eq.mp this
  | none =>
    cases hb : isBr op with
    | false => rfl
    | true =>
      exfalso
      have hm : op ∈ ([56, 57, 58, 59, 60, 61, 62, 63, 64, 65, 66, 67, 68, 221] : List Int) := by
        unfold isBr at hb
        simp only [Bool.or_eq_true, Bool.and_eq_true, decide_eq_true_eq, beq_iff_eq] at hb
        rcases hb with ⟨b0, b1⟩ | rfl
        · have e : op = 56 + (((op - 56).toNat : Nat) : Int) := by omega
          have hk : (op - 56).toNat < 13 := by omega
          rw [e]
          exact (by decide : ∀ k : Fin 13, (56 + ((k.val : Nat) : Int)) ∈ ([56, 57, 58, 59, 60, 61, 62, 63, 64, 65, 66, 67, 68, 221] : List Int)) ⟨_, hk⟩
        · decide
      have := List.all_eq_true.mp sorts_br2 op hm
      rw [h] at this; cases this

noncomputable def constL : List (Str × Int) := [("EC_FILTER", 1), ("OP_BR", 56), ("OP_SWITCH", 69), ("OP_LEAVE", 221), ("OP_CONSTRAINED", 65046), ("OP_READONLY", 65054), ("OP_CALLVIRT", 111), ("OP_LDELEMA", 143), ("SO_BRANCH", 5)]
noncomputable def T0 : Tab := { consts := fun x => constL.lookup x, funs := fun _ => none, sorts := sortsL }
noncomputable def constOk (K : Frag) (p : Str × Int) : Bool := match nsIn K mainGlobals p.1 with
  | some (some (.int i _)) => decide (i = p.2) && !(p.1 == ("__debug__" : Str))
  | _ => false
theorem const_ok (P : Params) : constL.all (constOk (KH P)) = true := by kernel_rfl

section
variable {prog : Program} {w : World} {base : Heap} {mg mb : Str → Option Value} {p : Program} {loose : List Str}
theorem pairs_of : ∀ {es : List DictEntry}, es.all entOk = true → Pairs (intKind prog w) es (es.map entKV)
  | [], _ => .nil
  | e :: es, h => by
    simp only [List.all_cons, Bool.and_eq_true] at h
    refine .cons ?_ rfl (pairs_of h.2)
    have h1 := h.1
    unfold entOk at h1
    unfold entKV
    split at h1
    · rename_i k t v t' hk hv
      rw [hk]; exact intKind_is prog w k t
    · cases h1
theorem repkv_of : ∀ {es : List DictEntry}, es.all entOk = true → RepKV prog w (fun _ => none) (es.map entKV) ((es.map entKI).map fun q => (.int q.1, .int q.2))
  | [], _ => .nil
  | e :: es, h => by
    simp only [List.all_cons, Bool.and_eq_true] at h
    have h1 := h.1
    unfold entOk at h1
    simp only [List.map_cons]
    have hk : (entKV e).1 = (entKI e).1 := rfl
    have hv : Rep prog w (fun _ => none) (entKV e).2 (.int (entKI e).2) := by
      unfold entKV entKI
      split at h1
      · rename_i k t v t' hk hv
        rw [hv]; exact .int v t'
      · cases h1
    generalize entKV e = a at hk hv
    obtain ⟨a1, a2⟩ := a
    simp only at hk hv
    subst hk
    exact .cons hv (repkv_of h.2)
theorem dict_of (X : (KH w.params).In base) : base.DictOf (intKind prog w) 47 (tabE.map entKV) := by
  refine ⟨tabO 47 w.params, tabE.toArray, tabE.length, X _ _ (by kernel_rfl), ⟨rfl, rfl, rfl⟩, by kernel_rfl, fun e he => ?_, by rw [List.toList_toArray]; exact pairs_of sorts_ok, ?_⟩
  · have := List.all_eq_true.mp sorts_ok e (by rw [List.mem_toArray] at he; exact he)
    unfold entOk at this
    split at this
    · rename_i k t v t' hk hv
      rw [hk]
      exact ⟨k, intKind_is prog w k t, of_decide_eq_true this⟩
    · cases this
  · have := of_decide_eq_true sorts_nodup
    unfold sortsL at this
    rw [List.map_map] at this ⊢
    exact this
theorem world0 (X : (KH w.params).In base) (TR : TopRead p loose mg mb base) : World0 prog w 44 T0 1 base mg mb where
  g := TR.g
  b := TR.b
  nolimit := TR.nolimit
  consts := fun x i h => by
    have hm := lookup_mem (h : constL.lookup x = some i)
    have := List.all_eq_true.mp (const_ok w.params) _ hm
    unfold constOk at this
    split at this
    · rename_i j t e
      simp only [Bool.and_eq_true, decide_eq_true_eq, Bool.not_eq_true'] at this
      refine ⟨⟨t, ?_⟩, this.2⟩
      rw [← this.1]
      exact mg_of X TR.g e
    · cases this
  bi := by
    have none_of : ∀ n, nsIn (KH w.params) mainGlobals n = some none → mg n = none := fun n e => mg_none_of X TR.g e
    refine ⟨none_of _ (by kernel_rfl), (TR.builtins _ (by decide)).trans (by kernel_rfl), none_of _ (by kernel_rfl), (TR.builtins _ (by decide)).trans (by kernel_rfl), none_of _ (by kernel_rfl), (TR.builtins _ (by decide)).trans (by kernel_rfl),
      none_of _ (by kernel_rfl), (TR.builtins _ (by decide)).trans (by kernel_rfl), none_of _ (by kernel_rfl), (TR.builtins _ (by decide)).trans (by kernel_rfl)⟩
  sorts := ⟨47, _, mg_of X TR.g (by kernel_rfl), by decide, dict_of X, repkv_of sorts_ok⟩
  funs := fun x φ h => by cases h

theorem Contract.mono {BC fa : Addr} {d d' : Nat} {φ : List PyData → Res PyData} (h : d ≤ d') (c : Contract prog w BC base d fa φ) : Contract prog w BC base d' fa φ :=
  fun A fr xb z s vs ds R h1 h2 h3 h4 => c A fr xb z s vs ds R h1 h2 (by omega) (by omega)
noncomputable def Tab.add (T : Tab) (n : Str) (φ : List PyData → Res PyData) : Tab := { T with funs := fun x => if x = n then some φ else T.funs x }
theorem World0.add {T : Tab} {d : Nat} {BC fa : Addr} {n : Str} {φ : List PyData → Res PyData} {o : Obj} {fd : FuncData} (W : World0 prog w BC T d base mg mb) (hn : (n == ("__debug__" : Str)) = false) (hm : mg n = some (.ref fa)) (ho : base.get? fa = some o) (hf : o.data = .func fd) (C : Contract prog w BC base (d + 1) fa φ) :
    World0 prog w BC (T.add n φ) (d + 1) base mg mb := by
  refine { W with funs := ?_ }
  intro x ψ h
  unfold Tab.add at h
  simp only at h
  by_cases q : x = n
  · subst q
    rw [if_pos rfl] at h; cases h
    exact ⟨hn, fa, o, fd, hm, ho, hf, C⟩
  · rw [if_neg q] at h
    obtain ⟨h1, fa', o', fd', h2, h3, h4, h5⟩ := W.funs x ψ h
    exact ⟨h1, fa', o', fd', h2, h3, h4, h5.mono (Nat.le_succ d)⟩

noncomputable def fd28 (P : Params) : Option FuncData := match (oA28 P).data with
  | .func fd => some fd
  | _ => none
noncomputable def F_init : {fd : FuncData // ∀ P, fd28 P = some fd} := by
  refine ⟨?b, ?h⟩
  case h => intro P; conv => lhs; whnf
theorem cls44 (P : Params) : (KH P).lookup 44 = some (clsO "BadCode" "BadCode" 44 43 31 [.ref 31] [] (some (.ref 35)) none (some (.str "BadCode" 236)) (some (.str "BadCode" 244)) (some (.bool true))) := by kernel_rfl
theorem raise_ok (X : (KH w.params).In base) (TR : TopRead p loose mg mb base) : RaiseOk prog w 44 base := by
  refine raiseOk (K := KH w.params) (Rr := 31) (fI := 28) (fd := F_init.1) (n1 := "self") (n2 := "code") (n3 := "at") (qs := (bodyOf F_init.1).map unSet) X TR.nolimit (cls44 w.params) (by kernel_rfl) (by kernel_rfl) (oI := ⟨.type "function", none, .func F_init.1, #[]⟩) (by kernel_rfl) rfl rfl
    (codeRec_of X (by kernel_rfl)) (by kernel_rfl) (by kernel_rfl) (fun a b c => by rfl) ?_ ?_ (by kernel_rfl) (by decide +kernel) (by kernel_rfl) (by kernel_rfl) (by kernel_rfl)
  · decide +kernel
  · decide +kernel
end
end
section
set_option maxRecDepth 100000
set_option linter.unusedVariables false
noncomputable def recAt (n : Str) : Option FuncData := ((recsOf qv).find? (fun d => d.name == n)).map fun d => docDef d.name d.params d.body d.scope .none .none .none
theorem fnOf {base : Heap} {mg mb : Str → Option Value} {loose : List Str} {mean : ExcName → Option Value} (TT : Top qv loose mean mg mb base) {n : Str} {fd : FuncData} (h : recAt n = some fd) :
    ∃ a o pm cd doc, mg n = some (.ref a) ∧ base.get? a = some o ∧ o.data = .func (docDef fd.name fd.params (bodyOf fd) fd.scope pm cd doc) ∧ base.CodeRec cd fd.name := by
  obtain ⟨d, hd, rfl⟩ := Option.map_eq_some_iff.mp h
  obtain ⟨a, o, pm, cd, doc, h1, h2, h3, h4⟩ := TT.fn d (List.mem_of_find?_eq_some hd)
  have hn : d.name = n := by simpa using List.find?_some hd
  exact ⟨a, o, pm, cd, doc, by rw [← hn]; exact h1, h2, h3, h4⟩
theorem addF {prog : Program} {w : World} {base : Heap} {mg mb : Str → Option Value} {loose : List Str} {mean : ExcName → Option Value} (TT : Top qv loose mean mg mb base) {T : Tab} {dep : Nat} (W : World0 prog w 44 T dep base mg mb) (h1 : 1 ≤ dep) (hBC : mg "BadCode" = some (.ref 44)) (RO : RaiseOk prog w 44 base) {n : Str} {fd : FuncData} {names : List Str}
    (h : recAt n = some fd) (hn : (n == ("__debug__" : Str)) = false) (hbind : ∀ (pm cd doc : Value) (vals : List Value), names.length = vals.length → bindArgs (docDef fd.name fd.params (bodyOf fd) fd.scope pm cd doc) ⟨vals, []⟩ = pure (names.zip vals))
    (hst : names.all (storable fd.scope) = true) (hnd : names.Nodup) (hk : fd.scope.kind = .function) (hco : fd.scope.isCoroutine = false) (hgen : fd.scope.isGenerator = false) :
    World0 prog w 44 (T.add n (runDef T frz fuel fd.scope names (bodyOf fd))) (dep + 1) base mg mb := by
  obtain ⟨a, o, pm, cd, doc, e1, e2, e3, e4⟩ := fnOf TT h
  exact World0.add W hn e1 e2 e3 (contract W h1 hBC RO e2 e3 e4 (hbind pm cd doc) hst hnd hk hco hgen frz fuel)
theorem len1 {P : List Value → Prop} (f : ∀ v0, P [v0]) (vals : List Value) (h : 1 = vals.length) : P vals := by
  rcases vals with _ | ⟨v0, vals⟩
  · cases h
  cases vals with
  | nil => exact f v0
  | cons _ _ => simp at h; try omega
theorem len2 {P : List Value → Prop} (f : ∀ v0 v1, P [v0, v1]) (vals : List Value) (h : 2 = vals.length) : P vals := by
  rcases vals with _ | ⟨v0, vals⟩
  · cases h
  rcases vals with _ | ⟨v1, vals⟩
  · cases h
  cases vals with
  | nil => exact f v0 v1
  | cons _ _ => simp at h; try omega
theorem len3 {P : List Value → Prop} (f : ∀ v0 v1 v2, P [v0, v1, v2]) (vals : List Value) (h : 3 = vals.length) : P vals := by
  rcases vals with _ | ⟨v0, vals⟩
  · cases h
  rcases vals with _ | ⟨v1, vals⟩
  · cases h
  rcases vals with _ | ⟨v2, vals⟩
  · cases h
  cases vals with
  | nil => exact f v0 v1 v2
  | cons _ _ => simp at h; try omega
theorem len4 {P : List Value → Prop} (f : ∀ v0 v1 v2 v3, P [v0, v1, v2, v3]) (vals : List Value) (h : 4 = vals.length) : P vals := by
  rcases vals with _ | ⟨v0, vals⟩
  · cases h
  rcases vals with _ | ⟨v1, vals⟩
  · cases h
  rcases vals with _ | ⟨v2, vals⟩
  · cases h
  rcases vals with _ | ⟨v3, vals⟩
  · cases h
  cases vals with
  | nil => exact f v0 v1 v2 v3
  | cons _ _ => simp at h; try omega
theorem len6 {P : List Value → Prop} (f : ∀ v0 v1 v2 v3 v4 v5, P [v0, v1, v2, v3, v4, v5]) (vals : List Value) (h : 6 = vals.length) : P vals := by
  rcases vals with _ | ⟨v0, vals⟩
  · cases h
  rcases vals with _ | ⟨v1, vals⟩
  · cases h
  rcases vals with _ | ⟨v2, vals⟩
  · cases h
  rcases vals with _ | ⟨v3, vals⟩
  · cases h
  rcases vals with _ | ⟨v4, vals⟩
  · cases h
  rcases vals with _ | ⟨v5, vals⟩
  · cases h
  cases vals with
  | nil => exact f v0 v1 v2 v3 v4 v5
  | cons _ _ => simp at h; try omega
noncomputable def φ_is_branch : List PyData → Res PyData := runDef T0 frz fuel F_is_branch.1.scope ["op"] (bodyOf F_is_branch.1)
noncomputable def T1 : Tab := T0.add "is_branch" φ_is_branch
noncomputable def φ_prefix_goal : List PyData → Res PyData := runDef T1 frz fuel F_prefix_goal.1.scope ["op"] (bodyOf F_prefix_goal.1)
noncomputable def T2 : Tab := T1.add "prefix_goal" φ_prefix_goal
noncomputable def φ_clause_edges : List PyData → Res PyData := runDef T2 frz fuel F_clause_edges.1.scope ["clause"] (bodyOf F_clause_edges.1)
noncomputable def T3 : Tab := T2.add "clause_edges" φ_clause_edges
noncomputable def φ_new_places : List PyData → Res PyData := runDef T3 frz fuel F_new_places.1.scope ["flags"] (bodyOf F_new_places.1)
noncomputable def T4 : Tab := T3.add "new_places" φ_new_places
noncomputable def φ_move_targets : List PyData → Res PyData := runDef T4 frz fuel F_move_targets.1.scope ["ins", "places"] (bodyOf F_move_targets.1)
noncomputable def T5 : Tab := T4.add "move_targets" φ_move_targets
noncomputable def φ_move_clause : List PyData → Res PyData := runDef T5 frz fuel F_move_clause.1.scope ["clause", "places"] (bodyOf F_move_clause.1)
noncomputable def T6 : Tab := T5.add "move_clause" φ_move_clause
noncomputable def φ_keep_only : List PyData → Res PyData := runDef T6 frz fuel F_keep_only.1.scope ["code", "clauses", "kept"] (bodyOf F_keep_only.1)
noncomputable def T7 : Tab := T6.add "keep_only" φ_keep_only
noncomputable def φ_region_key : List PyData → Res PyData := runDef T7 frz fuel F_region_key.1.scope ["clauses", "i"] (bodyOf F_region_key.1)
noncomputable def T8 : Tab := T7.add "region_key" φ_region_key
noncomputable def φ_checked_goal : List PyData → Res PyData := runDef T8 frz fuel F_checked_goal.1.scope ["code", "i", "goal"] (bodyOf F_checked_goal.1)
noncomputable def T9 : Tab := T8.add "checked_goal" φ_checked_goal
noncomputable def φ_chain_end : List PyData → Res PyData := runDef T9 frz fuel F_chain_end.1.scope ["code", "clauses", "i", "goal"] (bodyOf F_chain_end.1)
noncomputable def T10 : Tab := T9.add "chain_end" φ_chain_end
noncomputable def φ_thread_one : List PyData → Res PyData := runDef T10 frz fuel F_thread_one.1.scope ["code", "clauses", "i"] (bodyOf F_thread_one.1)
noncomputable def T11 : Tab := T10.add "thread_one" φ_thread_one
noncomputable def φ_is_edge : List PyData → Res PyData := runDef T11 frz fuel F_is_edge.1.scope ["clauses", "i"] (bodyOf F_is_edge.1)
noncomputable def T12 : Tab := T11.add "is_edge" φ_is_edge
noncomputable def φ_check_edges : List PyData → Res PyData := runDef T12 frz fuel F_check_edges.1.scope ["code", "clauses"] (bodyOf F_check_edges.1)
noncomputable def T13 : Tab := T12.add "check_edges" φ_check_edges
noncomputable def φ_thread_round : List PyData → Res PyData := runDef T13 frz fuel F_thread_round.1.scope ["code", "clauses"] (bodyOf F_thread_round.1)
noncomputable def T14 : Tab := T13.add "thread_round" φ_thread_round
noncomputable def φ_thread_in : List PyData → Res PyData := runDef T14 frz fuel F_thread_in.1.scope ["code", "clauses"] (bodyOf F_thread_in.1)
noncomputable def T15 : Tab := T14.add "thread_in" φ_thread_in
noncomputable def φ_law_goal : List PyData → Res PyData := runDef T15 frz fuel F_law_goal.1.scope ["t", "size"] (bodyOf F_law_goal.1)
noncomputable def T16 : Tab := T15.add "_law_goal" φ_law_goal
noncomputable def φ_law_row : List PyData → Res PyData := runDef T16 frz fuel F_law_row.1.scope ["v", "size"] (bodyOf F_law_row.1)
noncomputable def T17 : Tab := T16.add "_law_row" φ_law_row
noncomputable def φ_law_clauses : List PyData → Res PyData := runDef T17 frz fuel F_law_clauses.1.scope ["q", "size"] (bodyOf F_law_clauses.1)
noncomputable def T18 : Tab := T17.add "_law_clauses" φ_law_clauses
noncomputable def φ_law_goals : List PyData → Res PyData := runDef T18 frz fuel F_law_goals.1.scope ["row"] (bodyOf F_law_goals.1)
noncomputable def T19 : Tab := T18.add "_law_goals" φ_law_goals
noncomputable def φ_law_edges : List PyData → Res PyData := runDef T19 frz fuel F_law_edges.1.scope ["clauses"] (bodyOf F_law_edges.1)
noncomputable def T20 : Tab := T19.add "_law_edges" φ_law_edges
noncomputable def φ_law_good : List PyData → Res PyData := runDef T20 frz fuel F_law_good.1.scope ["code", "clauses"] (bodyOf F_law_good.1)
noncomputable def T21 : Tab := T20.add "_law_good" φ_law_good
noncomputable def φ_law_parts : List PyData → Res PyData := runDef T21 frz fuel F_law_parts.1.scope ["clauses", "i"] (bodyOf F_law_parts.1)
noncomputable def T22 : Tab := T21.add "_law_parts" φ_law_parts
noncomputable def φ_law_behind : List PyData → Res PyData := runDef T22 frz fuel F_law_behind.1.scope ["live", "n"] (bodyOf F_law_behind.1)
noncomputable def T23 : Tab := T22.add "_law_behind" φ_law_behind
noncomputable def φ_law_end : List PyData → Res PyData := runDef T23 frz fuel F_law_end.1.scope ["code", "parts", "live", "goals", "i", "goal"] (bodyOf F_law_end.1)
noncomputable def T24 : Tab := T23.add "_law_end" φ_law_end
noncomputable def φ_law_round : List PyData → Res PyData := runDef T24 frz fuel F_law_round.1.scope ["code", "clauses", "live", "goals"] (bodyOf F_law_round.1)
noncomputable def T25 : Tab := T24.add "_law_round" φ_law_round
noncomputable def φ_law_threaded : List PyData → Res PyData := runDef T25 frz fuel F_law_threaded.1.scope ["code", "clauses"] (bodyOf F_law_threaded.1)
noncomputable def T26 : Tab := T25.add "_law_threaded" φ_law_threaded

section
variable {prog : Program} {w : World} {base : Heap} {mg mb : Str → Option Value} {loose : List Str} {mean : ExcName → Option Value} (X : (KH w.params).In base) (TT : Top qv loose mean mg mb base)
include X TT
theorem hBC_ : mg "BadCode" = some (.ref 44) := mg_of X TT.g (by kernel_rfl)
theorem W0 : World0 prog w 44 T0 1 base mg mb := world0 X (topRead_of TT)
theorem W1 : World0 prog w 44 T1 2 base mg mb :=
  addF TT (W0 X TT) (by decide) (hBC_ X TT) (raise_ok X (topRead_of TT)) (fd := F_is_branch.1) (by kernel_rfl) (by decide)
    (fun pm cd doc => len1 fun v0 => rfl) (by decide +kernel) (by decide +kernel) (by kernel_rfl) (by kernel_rfl) (by kernel_rfl)
theorem W2 : World0 prog w 44 T2 3 base mg mb :=
  addF TT (W1 X TT) (by decide) (hBC_ X TT) (raise_ok X (topRead_of TT)) (fd := F_prefix_goal.1) (by kernel_rfl) (by decide)
    (fun pm cd doc => len1 fun v0 => rfl) (by decide +kernel) (by decide +kernel) (by kernel_rfl) (by kernel_rfl) (by kernel_rfl)
theorem W3 : World0 prog w 44 T3 4 base mg mb :=
  addF TT (W2 X TT) (by decide) (hBC_ X TT) (raise_ok X (topRead_of TT)) (fd := F_clause_edges.1) (by kernel_rfl) (by decide)
    (fun pm cd doc => len1 fun v0 => rfl) (by decide +kernel) (by decide +kernel) (by kernel_rfl) (by kernel_rfl) (by kernel_rfl)
theorem W4 : World0 prog w 44 T4 5 base mg mb :=
  addF TT (W3 X TT) (by decide) (hBC_ X TT) (raise_ok X (topRead_of TT)) (fd := F_new_places.1) (by kernel_rfl) (by decide)
    (fun pm cd doc => len1 fun v0 => rfl) (by decide +kernel) (by decide +kernel) (by kernel_rfl) (by kernel_rfl) (by kernel_rfl)
theorem W5 : World0 prog w 44 T5 6 base mg mb :=
  addF TT (W4 X TT) (by decide) (hBC_ X TT) (raise_ok X (topRead_of TT)) (fd := F_move_targets.1) (by kernel_rfl) (by decide)
    (fun pm cd doc => len2 fun v0 v1 => rfl) (by decide +kernel) (by decide +kernel) (by kernel_rfl) (by kernel_rfl) (by kernel_rfl)
theorem W6 : World0 prog w 44 T6 7 base mg mb :=
  addF TT (W5 X TT) (by decide) (hBC_ X TT) (raise_ok X (topRead_of TT)) (fd := F_move_clause.1) (by kernel_rfl) (by decide)
    (fun pm cd doc => len2 fun v0 v1 => rfl) (by decide +kernel) (by decide +kernel) (by kernel_rfl) (by kernel_rfl) (by kernel_rfl)
theorem W7 : World0 prog w 44 T7 8 base mg mb :=
  addF TT (W6 X TT) (by decide) (hBC_ X TT) (raise_ok X (topRead_of TT)) (fd := F_keep_only.1) (by kernel_rfl) (by decide)
    (fun pm cd doc => len3 fun v0 v1 v2 => rfl) (by decide +kernel) (by decide +kernel) (by kernel_rfl) (by kernel_rfl) (by kernel_rfl)
theorem W8 : World0 prog w 44 T8 9 base mg mb :=
  addF TT (W7 X TT) (by decide) (hBC_ X TT) (raise_ok X (topRead_of TT)) (fd := F_region_key.1) (by kernel_rfl) (by decide)
    (fun pm cd doc => len2 fun v0 v1 => rfl) (by decide +kernel) (by decide +kernel) (by kernel_rfl) (by kernel_rfl) (by kernel_rfl)
theorem W9 : World0 prog w 44 T9 10 base mg mb :=
  addF TT (W8 X TT) (by decide) (hBC_ X TT) (raise_ok X (topRead_of TT)) (fd := F_checked_goal.1) (by kernel_rfl) (by decide)
    (fun pm cd doc => len3 fun v0 v1 v2 => rfl) (by decide +kernel) (by decide +kernel) (by kernel_rfl) (by kernel_rfl) (by kernel_rfl)
theorem W10 : World0 prog w 44 T10 11 base mg mb :=
  addF TT (W9 X TT) (by decide) (hBC_ X TT) (raise_ok X (topRead_of TT)) (fd := F_chain_end.1) (by kernel_rfl) (by decide)
    (fun pm cd doc => len4 fun v0 v1 v2 v3 => rfl) (by decide +kernel) (by decide +kernel) (by kernel_rfl) (by kernel_rfl) (by kernel_rfl)
theorem W11 : World0 prog w 44 T11 12 base mg mb :=
  addF TT (W10 X TT) (by decide) (hBC_ X TT) (raise_ok X (topRead_of TT)) (fd := F_thread_one.1) (by kernel_rfl) (by decide)
    (fun pm cd doc => len3 fun v0 v1 v2 => rfl) (by decide +kernel) (by decide +kernel) (by kernel_rfl) (by kernel_rfl) (by kernel_rfl)
theorem W12 : World0 prog w 44 T12 13 base mg mb :=
  addF TT (W11 X TT) (by decide) (hBC_ X TT) (raise_ok X (topRead_of TT)) (fd := F_is_edge.1) (by kernel_rfl) (by decide)
    (fun pm cd doc => len2 fun v0 v1 => rfl) (by decide +kernel) (by decide +kernel) (by kernel_rfl) (by kernel_rfl) (by kernel_rfl)
theorem W13 : World0 prog w 44 T13 14 base mg mb :=
  addF TT (W12 X TT) (by decide) (hBC_ X TT) (raise_ok X (topRead_of TT)) (fd := F_check_edges.1) (by kernel_rfl) (by decide)
    (fun pm cd doc => len2 fun v0 v1 => rfl) (by decide +kernel) (by decide +kernel) (by kernel_rfl) (by kernel_rfl) (by kernel_rfl)
theorem W14 : World0 prog w 44 T14 15 base mg mb :=
  addF TT (W13 X TT) (by decide) (hBC_ X TT) (raise_ok X (topRead_of TT)) (fd := F_thread_round.1) (by kernel_rfl) (by decide)
    (fun pm cd doc => len2 fun v0 v1 => rfl) (by decide +kernel) (by decide +kernel) (by kernel_rfl) (by kernel_rfl) (by kernel_rfl)
theorem W15 : World0 prog w 44 T15 16 base mg mb :=
  addF TT (W14 X TT) (by decide) (hBC_ X TT) (raise_ok X (topRead_of TT)) (fd := F_thread_in.1) (by kernel_rfl) (by decide)
    (fun pm cd doc => len2 fun v0 v1 => rfl) (by decide +kernel) (by decide +kernel) (by kernel_rfl) (by kernel_rfl) (by kernel_rfl)
theorem W16 : World0 prog w 44 T16 17 base mg mb :=
  addF TT (W15 X TT) (by decide) (hBC_ X TT) (raise_ok X (topRead_of TT)) (fd := F_law_goal.1) (by kernel_rfl) (by decide)
    (fun pm cd doc => len2 fun v0 v1 => rfl) (by decide +kernel) (by decide +kernel) (by kernel_rfl) (by kernel_rfl) (by kernel_rfl)
theorem W17 : World0 prog w 44 T17 18 base mg mb :=
  addF TT (W16 X TT) (by decide) (hBC_ X TT) (raise_ok X (topRead_of TT)) (fd := F_law_row.1) (by kernel_rfl) (by decide)
    (fun pm cd doc => len2 fun v0 v1 => rfl) (by decide +kernel) (by decide +kernel) (by kernel_rfl) (by kernel_rfl) (by kernel_rfl)
theorem W18 : World0 prog w 44 T18 19 base mg mb :=
  addF TT (W17 X TT) (by decide) (hBC_ X TT) (raise_ok X (topRead_of TT)) (fd := F_law_clauses.1) (by kernel_rfl) (by decide)
    (fun pm cd doc => len2 fun v0 v1 => rfl) (by decide +kernel) (by decide +kernel) (by kernel_rfl) (by kernel_rfl) (by kernel_rfl)
theorem W19 : World0 prog w 44 T19 20 base mg mb :=
  addF TT (W18 X TT) (by decide) (hBC_ X TT) (raise_ok X (topRead_of TT)) (fd := F_law_goals.1) (by kernel_rfl) (by decide)
    (fun pm cd doc => len1 fun v0 => rfl) (by decide +kernel) (by decide +kernel) (by kernel_rfl) (by kernel_rfl) (by kernel_rfl)
theorem W20 : World0 prog w 44 T20 21 base mg mb :=
  addF TT (W19 X TT) (by decide) (hBC_ X TT) (raise_ok X (topRead_of TT)) (fd := F_law_edges.1) (by kernel_rfl) (by decide)
    (fun pm cd doc => len1 fun v0 => rfl) (by decide +kernel) (by decide +kernel) (by kernel_rfl) (by kernel_rfl) (by kernel_rfl)
theorem W21 : World0 prog w 44 T21 22 base mg mb :=
  addF TT (W20 X TT) (by decide) (hBC_ X TT) (raise_ok X (topRead_of TT)) (fd := F_law_good.1) (by kernel_rfl) (by decide)
    (fun pm cd doc => len2 fun v0 v1 => rfl) (by decide +kernel) (by decide +kernel) (by kernel_rfl) (by kernel_rfl) (by kernel_rfl)
theorem W22 : World0 prog w 44 T22 23 base mg mb :=
  addF TT (W21 X TT) (by decide) (hBC_ X TT) (raise_ok X (topRead_of TT)) (fd := F_law_parts.1) (by kernel_rfl) (by decide)
    (fun pm cd doc => len2 fun v0 v1 => rfl) (by decide +kernel) (by decide +kernel) (by kernel_rfl) (by kernel_rfl) (by kernel_rfl)
theorem W23 : World0 prog w 44 T23 24 base mg mb :=
  addF TT (W22 X TT) (by decide) (hBC_ X TT) (raise_ok X (topRead_of TT)) (fd := F_law_behind.1) (by kernel_rfl) (by decide)
    (fun pm cd doc => len2 fun v0 v1 => rfl) (by decide +kernel) (by decide +kernel) (by kernel_rfl) (by kernel_rfl) (by kernel_rfl)
theorem W24 : World0 prog w 44 T24 25 base mg mb :=
  addF TT (W23 X TT) (by decide) (hBC_ X TT) (raise_ok X (topRead_of TT)) (fd := F_law_end.1) (by kernel_rfl) (by decide)
    (fun pm cd doc => len6 fun v0 v1 v2 v3 v4 v5 => rfl) (by decide +kernel) (by decide +kernel) (by kernel_rfl) (by kernel_rfl) (by kernel_rfl)
theorem W25 : World0 prog w 44 T25 26 base mg mb :=
  addF TT (W24 X TT) (by decide) (hBC_ X TT) (raise_ok X (topRead_of TT)) (fd := F_law_round.1) (by kernel_rfl) (by decide)
    (fun pm cd doc => len4 fun v0 v1 v2 v3 => rfl) (by decide +kernel) (by decide +kernel) (by kernel_rfl) (by kernel_rfl) (by kernel_rfl)
theorem W26 : World0 prog w 44 T26 27 base mg mb :=
  addF TT (W25 X TT) (by decide) (hBC_ X TT) (raise_ok X (topRead_of TT)) (fd := F_law_threaded.1) (by kernel_rfl) (by decide)
    (fun pm cd doc => len2 fun v0 v1 => rfl) (by decide +kernel) (by decide +kernel) (by kernel_rfl) (by kernel_rfl) (by kernel_rfl)
end
theorem L4_is_branch : T4.funs "is_branch" = some φ_is_branch := by kernel_rfl
theorem L6_new_places : T6.funs "new_places" = some φ_new_places := by kernel_rfl
theorem L6_move_targets : T6.funs "move_targets" = some φ_move_targets := by kernel_rfl
theorem L6_move_clause : T6.funs "move_clause" = some φ_move_clause := by kernel_rfl
theorem L9_region_key : T9.funs "region_key" = some φ_region_key := by kernel_rfl
theorem L9_checked_goal : T9.funs "checked_goal" = some φ_checked_goal := by kernel_rfl
theorem L10_chain_end : T10.funs "chain_end" = some φ_chain_end := by kernel_rfl
theorem L10_is_branch : T10.funs "is_branch" = some φ_is_branch := by kernel_rfl
theorem L10_checked_goal : T10.funs "checked_goal" = some φ_checked_goal := by kernel_rfl
theorem L11_clause_edges : T11.funs "clause_edges" = some φ_clause_edges := by kernel_rfl
theorem L12_clause_edges : T12.funs "clause_edges" = some φ_clause_edges := by kernel_rfl
theorem L12_prefix_goal : T12.funs "prefix_goal" = some φ_prefix_goal := by kernel_rfl
theorem L13_thread_one : T13.funs "thread_one" = some φ_thread_one := by kernel_rfl
theorem L13_is_edge : T13.funs "is_edge" = some φ_is_edge := by kernel_rfl
theorem L13_keep_only : T13.funs "keep_only" = some φ_keep_only := by kernel_rfl
theorem L14_check_edges : T14.funs "check_edges" = some φ_check_edges := by kernel_rfl
theorem L14_thread_round : T14.funs "thread_round" = some φ_thread_round := by kernel_rfl
theorem L16_law_goal : T16.funs "_law_goal" = some φ_law_goal := by kernel_rfl
theorem L20_law_edges : T20.funs "_law_edges" = some φ_law_edges := by kernel_rfl
theorem L20_law_goals : T20.funs "_law_goals" = some φ_law_goals := by kernel_rfl
theorem L23_law_behind : T23.funs "_law_behind" = some φ_law_behind := by kernel_rfl
theorem L24_law_parts : T24.funs "_law_parts" = some φ_law_parts := by kernel_rfl
theorem L24_law_end : T24.funs "_law_end" = some φ_law_end := by kernel_rfl
theorem L24_law_edges : T24.funs "_law_edges" = some φ_law_edges := by kernel_rfl
theorem L24_law_behind : T24.funs "_law_behind" = some φ_law_behind := by kernel_rfl
theorem L25_law_goals : T25.funs "_law_goals" = some φ_law_goals := by kernel_rfl
theorem L25_law_round : T25.funs "_law_round" = some φ_law_round := by kernel_rfl
theorem L26_law_row : T26.funs "_law_row" = some φ_law_row := by kernel_rfl
theorem L26_law_clauses : T26.funs "_law_clauses" = some φ_law_clauses := by kernel_rfl
theorem L26_law_good : T26.funs "_law_good" = some φ_law_good := by kernel_rfl
theorem L26_law_threaded : T26.funs "_law_threaded" = some φ_law_threaded := by kernel_rfl
theorem L26_thread_in : T26.funs "thread_in" = some φ_thread_in := by kernel_rfl
theorem K2_EC_FILTER : T2.consts "EC_FILTER" = some 1 := by kernel_rfl
theorem K1_OP_CONSTRAINED : T1.consts "OP_CONSTRAINED" = some 65046 := by kernel_rfl
theorem K1_OP_READONLY : T1.consts "OP_READONLY" = some 65054 := by kernel_rfl
theorem K1_OP_CALLVIRT : T1.consts "OP_CALLVIRT" = some 111 := by kernel_rfl
theorem K1_OP_LDELEMA : T1.consts "OP_LDELEMA" = some 143 := by kernel_rfl
theorem K0_SO_BRANCH : T0.consts "SO_BRANCH" = some 5 := by kernel_rfl
theorem K4_OP_SWITCH : T4.consts "OP_SWITCH" = some 69 := by kernel_rfl
theorem K5_EC_FILTER : T5.consts "EC_FILTER" = some 1 := by kernel_rfl
theorem K7_EC_FILTER : T7.consts "EC_FILTER" = some 1 := by kernel_rfl
theorem K9_OP_BR : T9.consts "OP_BR" = some 56 := by kernel_rfl
theorem K10_OP_SWITCH : T10.consts "OP_SWITCH" = some 69 := by kernel_rfl
theorem K10_OP_LEAVE : T10.consts "OP_LEAVE" = some 221 := by kernel_rfl
theorem K12_EC_FILTER : T12.consts "EC_FILTER" = some 1 := by kernel_rfl
theorem K13_OP_BR : T13.consts "OP_BR" = some 56 := by kernel_rfl
end
section
set_option maxRecDepth 100000
set_option linter.unusedVariables false
set_option linter.unusedSectionVars false

theorem goals_len {r : Row} (wf : r.wf) : (goalsR r).length ≤ 90 := by
  cases r with
  | sw ts => exact wf
  | pl op n => simp only [goalsR]; split <;> simp
theorem f_is_branch (op : Int) : φ_is_branch [.int op] = .ok (.bool (isBr op)) := sem_is_branch T0 K0_SO_BRANCH op (sorts_isBr op)
theorem f_prefix_goal (op : Int) : φ_prefix_goal [.int op] = .ok (.int (pre op)) := sem_prefix_goal T1 K1_OP_CONSTRAINED K1_OP_READONLY K1_OP_CALLVIRT K1_OP_LDELEMA op
theorem f_clause_edges (c : Cl) : φ_clause_edges [cl c] = .ok (tup (edgesOf c)) := sem_clause_edges T2 K2_EC_FILTER c
theorem f_new_places (fs : List Bool) (hl : fs.length ≤ 900) : φ_new_places [.list (fs.map .bool)] = .ok (.list (il (placesOf fs))) := sem_new_places T3 fs hl
theorem f_move_targets (r : Row) (P : List Int) (wf : r.wf) (hg : ∀ g ∈ goalsR r, inR P.length g) : φ_move_targets [row r, .list (il P)] = .ok (row (mvRow P r)) := sem_move_targets T4 K4_OP_SWITCH L4_is_branch f_is_branch r P wf hg
theorem f_move_clause (c : Cl) (P : List Int) (hg : ∀ g ∈ edgesOf c, inR P.length g) : φ_move_clause [cl c, .list (il P)] = .ok (cl (mvCl P c)) := sem_move_clause T5 K5_EC_FILTER c P hg
theorem f_keep_only (rs : List Row) (cs : List Cl) (fs : List Bool) (hl : rs.length = fs.length) (hz : rs.length ≤ 90) (hzc : cs.length ≤ 90) (hr : ∀ r ∈ rs, r.wf ∧ ∀ g ∈ goalsR r, okG rs.length g = true) (hc : ∀ c ∈ cs, ∀ g ∈ edgesOf c, inR (rs.length + 1) g) :
    φ_keep_only [rws rs, cls cs, .list (fs.map .bool)] = .ok (.tuple [rws (keepR (placesOf fs) rs fs), cls (cs.map (mvCl (placesOf fs))), .list (il (placesOf fs))]) :=
  sem_keep_only T6 L6_new_places L6_move_targets L6_move_clause rs cs fs hl (by omega) (by omega) (f_new_places fs (by omega))
    (fun r hr' => f_move_targets r _ (hr r hr').1 fun g hg => by
      have := okG_iff.mp ((hr r hr').2 g hg)
      rw [placesOf_len, ← hl]; exact ⟨this.1, by have := this.2; omega⟩)
    (fun c hc' => f_move_clause c _ fun g hg => by rw [placesOf_len, ← hl]; exact hc c hc' g hg)
theorem f_region_key (cs : List Cl) (i : Int) (hz : cs.length ≤ 90) : φ_region_key [cls cs, .int i] = .ok (tup (keyOf cs i)) := sem_region_key T7 K7_EC_FILTER cs i (by omega)
theorem f_checked (code : List Row) (i g : Int) : φ_checked_goal [rws code, .int i, .int g] = if okG code.length g then .ok (.int g) else .exc := by
  have hl : (code.map row).length = code.length := List.length_map ..
  cases h : okG code.length g with
  | true =>
    have := okG_iff.mp h
    exact sem_checked_ok T8 (code.map row) i g this.1 (by rw [hl]; exact this.2)
  | false =>
    exact sem_checked_exc T8 (code.map row) i g fun q => by
      rw [hl] at q
      rw [okG_iff.mpr q] at h; cases h
section
variable {code : List Row} {cs : List Cl} (hm : code.length ≤ 90) (hcl : cs.length ≤ 90) (wf : ∀ r ∈ code, r.wf)
include hm hcl
theorem f_chain_end (i g : Int) : φ_chain_end [rws code, cls cs, .int i, .int g] = optI (chainEnd code cs i g) :=
  sem_chain_end T9 φ_region_key φ_checked_goal code cs K9_OP_BR L9_region_key L9_checked_goal (fun j => f_region_key cs j hcl) (f_checked code) hm i g
include wf
theorem f_thread_one (i : Nat) (r : Row) (hr : code[i]? = some r) : φ_thread_one [rws code, cls cs, .int i] = optR (threadOne code cs i r) :=
  sem_thread_one T10 φ_chain_end φ_is_branch φ_checked_goal code cs K10_OP_SWITCH K10_OP_LEAVE L10_chain_end L10_is_branch L10_checked_goal (f_chain_end hm hcl) f_is_branch (f_checked code) i r hr (wf r (List.mem_of_getElem? hr))
end
theorem f_is_edge (cs : List Cl) (i : Int) : φ_is_edge [cls cs, .int i] = .ok (.bool (isEdge cs i)) := sem_is_edge T11 L11_clause_edges f_clause_edges cs i
theorem f_check_edges (code : List Row) (cs : List Cl) (hcl : cs.length ≤ 90) : φ_check_edges [rws code, cls cs] = if cs.any (clBad code) then .exc else .ok .none :=
  sem_check_edges T12 φ_clause_edges φ_prefix_goal code cs K12_EC_FILTER L12_clause_edges L12_prefix_goal f_clause_edges f_prefix_goal hcl
theorem f_thread_round {code : List Row} {cs : List Cl} (S : OkSt code cs) : φ_thread_round [rws code, cls cs] = optP (threadRound code cs) :=
  sem_thread_round T13 φ_thread_one φ_is_edge φ_keep_only code cs K13_OP_BR L13_thread_one L13_is_edge L13_keep_only (f_thread_one S.len S.clen S.wf) (f_is_edge cs) S.len S.wf
    fun rs fs h1 h2 h3 h4 => f_keep_only rs cs fs h1 h2 S.clen h3 fun c hc g hg => by rw [h4]; exact S.edge c hc g hg
theorem f_thread_in {code : List Row} {cs : List Cl} (wf : ∀ r ∈ code, r.wf) (len : code.length ≤ 90) (clen : cs.length ≤ 90) : φ_thread_in [rws code, cls cs] = optP (threadIn code cs) :=
  sem_thread_in T14 φ_check_edges φ_thread_round code cs L14_check_edges L14_thread_round (f_check_edges code cs clen) (fun _ _ S => f_thread_round S) wf len clen

theorem f_law_goal (t size : Int) (hs : size ≠ 0) : φ_law_goal [.int t, .int size] = .ok (.int (goalL t size)) := sem_law_goal T15 t size hs
theorem f_law_row (v size : Int) (hs : size ≠ 0) : ∃ r : Row, r.wf ∧ φ_law_row [.int v, .int size] = .ok (row r) := sem_law_row T16 L16_law_goal v size fun t => f_law_goal t size hs
theorem f_law_clauses (q size : Int) (hs : size ≠ 0) : ∃ cs : List Cl, cs.length ≤ 2 ∧ φ_law_clauses [.int q, .int size] = .ok (cls cs) := sem_law_clauses T17 q size hs
theorem f_law_goals (r : Row) (wf : r.wf) : φ_law_goals [row r] = .ok (.list (il (goalsR r))) := sem_law_goals T18 r wf
theorem f_law_edges (cs : List Cl) (hcl : cs.length ≤ 90) : φ_law_edges [cls cs] = .ok (.list (il (allEdges cs))) := sem_law_edges T19 cs hcl
section
variable {code : List Row} {cs : List Cl} (hm : code.length ≤ 90) (hcl : cs.length ≤ 90) (wf : ∀ r ∈ code, r.wf)
include hcl wf
theorem f_law_good : φ_law_good [rws code, cls cs] = .ok (.bool (goodT code cs)) :=
  sem_law_good T20 φ_law_edges φ_law_goals code cs L20_law_edges L20_law_goals (f_law_edges cs hcl) fun r hr => f_law_goals r (wf r hr)
omit wf in
theorem f_law_parts (i : Int) : φ_law_parts [cls cs, .int i] = .ok (partsD cs i) := sem_law_parts T21 cs i hcl
omit hcl wf in
theorem f_law_behind (ls : List Int) (n : Int) (h : ls.length ≤ 90) : φ_law_behind [.list (il ls), .int n] = .ok (.int (behindI ls n)) := sem_law_behind T22 ls n h
include hm
omit hcl in
theorem f_law_end {ls : List Int} {G : List (Int × List Int)} (L : Live code cs ls G) (i g : Int) (hi : i ∈ ls) (h0 : 0 ≤ g) (h1 : g < (code.length : Int)) :
    φ_law_end [rws code, partsAll cs code.length, .list (il ls), gd G, .int i, .int g] = .ok (.int (lendT code cs ls G i g)) :=
  sem_law_end T23 φ_law_behind code cs ls G L23_law_behind (fun n => f_law_behind ls n (by have := L.llen; omega)) hm i g (okG_iff.mpr (L.rng i hi)) (fun a ha => okG_iff.mpr (L.rng a ha)) (L.behind hm h0 h1).2.1
    fun a ha h56 => by
      obtain ⟨x, hx, x0, x1, _⟩ := L.goal56 wf ha h56
      exact ⟨x, [], by rw [L.look a ha, hx], (L.behind hm x0 x1).2.1⟩
theorem f_law_round {ls : List Int} {G : List (Int × List Int)} (L : Live code cs ls G) :
    φ_law_round [rws code, cls cs, .list (il ls), gd G] = .ok (.tuple [.list (il (stayL code cs ls (outG code cs ls G))), gd (outG code cs ls G)]) :=
  sem_law_round T24 φ_law_parts φ_law_end φ_law_edges φ_law_behind code cs ls G L24_law_parts L24_law_end L24_law_edges L24_law_behind (f_law_parts hcl) (f_law_edges cs hcl) (fun n => f_law_behind ls n (by have := L.llen; omega))
    (fun i hi _ g hg => f_law_end hm wf L i g hi (L.goal i hi g hg).1 (L.goal i hi g hg).2) hm (by have := L.llen; omega) (fun a ha => okG_iff.mpr (L.rng a ha)) (L.srt.imp fun h => by omega) L.look
    (fun a ha h56 => by obtain ⟨x, hx, _⟩ := L.goal56 wf ha h56; rw [hx]; exact List.cons_ne_nil _ _) fun a ha => by
      obtain ⟨r, hr, hg, _⟩ := L.row_at ha
      rw [L.len a ha, hg]
      exact goals_len (wf r (List.mem_of_getElem? hr))
theorem f_law_threaded (hg : goodT code cs = true) : φ_law_threaded [rws code, cls cs] = .ok (pairD (lawT code cs)) :=
  sem_law_threaded T25 φ_law_goals φ_law_round code cs (Live code cs) L25_law_goals L25_law_round (fun r hr => f_law_goals r (wf r hr)) hm wf hcl (fun ls G L => f_law_round hm hcl wf L) (live0 hm hg wf) (fun ls G L => live_next hm L wf)
    (fun ls G => ls.length ≤ 90 ∧ ∀ a ∈ ls, okG code.length a = true ∧ lookG G a = some (getG G a) ∧ (getG G a).length ≤ 90)
    (fun ls G L => ⟨by have := L.llen; omega, fun a ha => by
      have LO := live_out hm L wf
      obtain ⟨r, hr, hg, _⟩ := LO.row_at ha
      refine ⟨okG_iff.mpr (L.rng a ha), LO.look a ha, ?_⟩
      rw [LO.len a ha, hg]
      exact goals_len (wf r (List.mem_of_getElem? hr))⟩) fun ls G h => h
end
end
section
set_option maxRecDepth 100000
set_option linter.unusedVariables false
set_option linter.unusedSimpArgs false

theorem okD_il : ∀ (n : Nat) (l : List Int), (il l).all (okD n) = true
  | n, [] => rfl
  | n, a :: l => by
    have ih := okD_il n l
    have e : okD n (.int a) = true := by unfold okD; rfl
    show (okD n (.int a) && (il l).all (okD n)) = true
    rw [e, ih]; rfl
theorem okD_row (n : Nat) (r : Row) : okD (n + 2) (row r) = true := by
  have e : ∀ m (i : Int), okD m (.int i) = true := fun m i => by unfold okD; rfl
  cases r with
  | sw ts =>
    show (okD (n + 1) (.int 69) && (okD (n + 1) (.tuple (il ts)) && true)) = true
    have : okD (n + 1) (.tuple (il ts)) = true := okD_il n ts
    rw [e, this]; rfl
  | pl op k =>
    show (okD (n + 1) (.int op) && (okD (n + 1) (.int k) && true)) = true
    rw [e, e]; rfl
theorem okD_cl (n : Nat) (c : Cl) : okD (n + 1) (cl c) = true := okD_il n [c.s, c.a, c.b, c.c, c.d, c.e]
theorem okD_pair (p : List Row × List Cl) : okD 8 (pairD p) = true := by
  have h1 : okD 7 (rws p.1) = true := by
    show (p.1.map row).all (okD 6) = true
    rw [List.all_eq_true]; intro d hd
    obtain ⟨r, _, rfl⟩ := List.mem_map.mp hd
    exact okD_row 4 r
  have h2 : okD 7 (cls p.2) = true := by
    show (p.2.map cl).all (okD 6) = true
    rw [List.all_eq_true]; intro d hd
    obtain ⟨r, _, rfl⟩ := List.mem_map.mp hd
    exact okD_cl 5 r
  show (okD 7 (rws p.1) && (okD 7 (cls p.2) && true)) = true
  rw [h1, h2]; rfl
theorem eqv_il : ∀ l : List Int, PyData.eqvAll (il l) (il l) = true := fun l => by rw [eqvAll_il]; simp
theorem eqv_row (r : Row) : PyData.eqv (row r) (row r) = true := by
  cases r with
  | sw ts => simp only [row, PyData.eqv, PyData.eqvAll, eqv_il, beq_self_eq_true, Bool.and_self]
  | pl op k => simp only [row, PyData.eqv, PyData.eqvAll, beq_self_eq_true, Bool.and_self]
theorem eqv_cl (c : Cl) : PyData.eqv (cl c) (cl c) = true := by
  have := eqv_il [c.s, c.a, c.b, c.c, c.d, c.e]
  unfold cl; rw [PyData.eqv]; exact this
theorem eqv_map {α : Type} (f : α → PyData) (h : ∀ a, PyData.eqv (f a) (f a) = true) : ∀ l : List α, PyData.eqvAll (l.map f) (l.map f) = true
  | [] => by simp [PyData.eqvAll]
  | a :: l => by rw [List.map_cons, PyData.eqvAll, h, eqv_map f h l]; rfl
theorem eqv_pair (p : List Row × List Cl) : PyData.eqv (pairD p) (pairD p) = true := by
  simp only [pairD, rws, cls, PyData.eqv, PyData.eqvAll, eqv_map row eqv_row, eqv_map cl eqv_cl, Bool.and_self]
theorem cmp_pair (p : List Row × List Cl) : cmp1 .Eq (pairD p) (pairD p) = .ok true := by
  have e : cmp1 .Eq (pairD p) (pairD p) = Res.guard (okD 8 (pairD p) && okD 8 (pairD p)) (.ok (PyData.eqv (pairD p) (pairD p))) := rfl
  rw [e, okD_pair, eqv_pair]; rfl
theorem cmp_none : cmp1 .Eq .none .none = .ok true := by
  have e : cmp1 .Eq .none .none = Res.guard (okD 8 .none && okD 8 .none) (.ok (PyData.eqv .none .none)) := rfl
  rw [e]; simp only [PyData.eqv]; rfl

noncomputable def rowOf (v size : Int) : Row := if h : size ≠ 0 then Classical.choose (f_law_row v size h) else .pl 0 0
theorem rowOf_ok (v : Int) {size : Int} (h : size ≠ 0) : (rowOf v size).wf ∧ φ_law_row [.int v, .int size] = .ok (row (rowOf v size)) := by
  unfold rowOf
  rw [dif_pos h]
  exact Classical.choose_spec (f_law_row v size h)

section
variable {T : Tab} {fz : Nat → List Str} {n : Nat} {sc : Scope} {Γ : Vars} {x : Str} {xp p pos : Pos} {t b o : Expr} {c : Bool} {u v : PyData}
theorem eifexpD (hz : fz pos.line = []) (hx : storable sc x = true) (h : evT T n sc Γ t = .ok c) (hb : c = true → ev T n sc Γ b = .ok u) (ho : c = false → ev T n sc Γ o = .ok v) :
    ex T fz (n + 2) sc Γ (.Assign [.Name x xp] (.IfExp t b o p) pos) = .nxt (Γ.set x (if c then u else v) false) := by
  have e : ev T (n + 1) sc Γ (.IfExp t b o p) = .ok (if c then u else v) := by
    refine bnd h ?_
    cases c with
    | true => exact hb rfl
    | false => exact ho rfl
  exact x_set hz hx rfl e
end

theorem eifexpZ {T : Tab} {fz : Nat → List Str} {n : Nat} {sc : Scope} {Γ Γ' : Vars} {x : Str} {xp p pos : Pos} {t b o : Expr} {c : Bool} {u v : PyData} (hz : Γ.freeze (fz pos.line) = Γ') (hx : storable sc x = true) (h : evT T n sc Γ' t = .ok c) (hb : c = true → ev T n sc Γ' b = .ok u) (ho : c = false → ev T n sc Γ' o = .ok v) :
    ex T fz (n + 2) sc Γ (.Assign [.Name x xp] (.IfExp t b o p) pos) = .nxt (Γ'.set x (if c then u else v) false) := by
  have e : ev T (n + 1) sc Γ' (.IfExp t b o p) = .ok (if c then u else v) := by
    refine bnd h ?_
    cases c with
    | true => exact hb rfl
    | false => exact ho rfl
  subst hz; exact (if_pos hx).trans (otf e rfl)
theorem ev_call2 {T : Tab} {n : Nat} {sc : Scope} {Γ : Vars} {f x y : Str} {p px py pos : Pos} {φ : List PyData → Res PyData} {da db : PyData} {r : Res PyData} (hΓ : Γ f = none) (hg : isGlob sc f = true) (hnb : f ∉ builtinNames) (hf : T.funs f = some φ)
    (ha : Γ x = some (da, false)) (hb : Γ y = some (db, false)) (hφ : φ [da, db] = r) : ev T (n + 5) sc Γ (.Call (.Name f p) [.Name x px, .Name y py] [] pos) = r := by
  have hs : builtinNames.contains f = false := by simpa using hnb
  exact v_call hΓ hg (c_fun hf (by rw [hs]; rfl) (s_cons (v_name ha) (s_cons (v_name hb) s_nil)) hφ)
noncomputable def numsOf (xs : List Int) : List Int := if 1 < xs.length then (xs.take 17).drop 1 else [16, 30, 17, 9, 1, 5]
theorem numsOf_len (xs : List Int) : 1 ≤ (numsOf xs).length ∧ (numsOf xs).length ≤ 16 := by
  unfold numsOf
  split
  · simp only [List.length_drop, List.length_take]; omega
  · exact ⟨by decide, by decide⟩

theorem slice_il (xs : List Int) : slice (.list (il xs)) 1 17 = .ok (.list (il ((xs.take 17).drop 1))) := by
  have h1 : (il xs).take 17 = il (xs.take 17) := by simp [il, List.map_take]
  have h2 : (il (xs.take 17)).drop 1 = il ((xs.take 17).drop 1) := by simp [il, List.map_drop]
  unfold slice
  simp only [show (17 : Int).toNat = 17 from rfl, show (1 : Int).toNat = 1 from rfl, h1, h2]
  rfl
structure Ready (Γ : Vars) (code : List Row) (cs : List Cl) : Prop where
  wf : ∀ r ∈ code, r.wf
  len : code.length ≤ 16
  clen : cs.length ≤ 2
  hcode : Γ "code" = some (rws code, false)
  hclauses : Γ "clauses" = some (cls cs, false)
  hwant : Γ "want" = some (if goodT code cs then pairD (lawT code cs) else .none, false)
  hgiven : Γ "given" = some (pairD (code, cs), false)
  hthread : Γ "thread_in" = none

theorem law_pre (xs : List Int) (hx : xs.length ≤ 63) : ∃ Γ code cs, Ready Γ code cs ∧ exs T26 frz 60 F_law.1.scope (bindV ["script"] [.list (il xs)]) ((bodyOf F_law.1).take 6) = .nxt Γ := by
  have skip : ∀ {n : Nat} {st : Stmt} {r : List Stmt} {sc : Scope} {Γ Γ' : Vars}, ex T26 frz n sc Γ st = .nxt Γ' → (∃ Γ₂ code cs, Ready Γ₂ code cs ∧ exs T26 frz n sc Γ' r = .nxt Γ₂) → ∃ Γ₂ code cs, Ready Γ₂ code cs ∧ exs T26 frz (n + 1) sc Γ (st :: r) = .nxt Γ₂ :=
    fun h1 ⟨Γ, code, cs, w, e⟩ => ⟨Γ, code, cs, w, exs_nxt h1 e⟩
  simp only [F_law, bodyOf, bindV_cons, bindV_nil, List.take_succ_cons, List.take_zero]
  have hl : ∀ l : List Int, (il l).length = l.length := fun l => by simp [il]
  -- numbers
  obtain ⟨n1, n16⟩ := numsOf_len xs
  refine skip (Γ' := (emp.set "script" (.list (il xs)) false).set "numbers" (.list (il (numsOf xs))) false) ?_ ?_
  · have e2 : PyData.list (il (numsOf xs)) = if decide (1 < xs.length) = true then .list (il ((xs.take 17).drop 1)) else .list (il [16, 30, 17, 9, 1, 5]) := by
      unfold numsOf; by_cases q : 1 < xs.length <;> simp [q]
    rw [e2]
    refine eifexpD rfl rfl ?_ (fun _ => ?_) (fun _ => ?_)
    · have : decide ((xs.length : Int) > 1) = decide (1 < xs.length) := by rw [decide_eq_decide]; omega
      exact (t_cmp (v_call (set_ne rfl emp_eq) rfl (c_len rfl (b_name set_eq) u_lenm)) (h_one (b_else rfl v_int) (m_gt this)))
    · exact Eq.trans (v_slc (b_name set_eq) rfl) (by simp only [List.length_cons, List.length_nil, if_true, if_false, reduceIte, reduceCtorEq, Option.map_some, Option.map_none, Int.reduceLE, Int.reduceLT, Int.reduceToNat, List.getElem?_cons_zero, List.getElem?_cons_succ, cmp1i, cmp1in, Bool.false_eq_true, or_false, or_true, true_or, false_or, beq_self_eq_true, Nat.reduceAdd, decide_true, decide_false, binop_add, binop_sub, Bool.and_true, Bool.true_and, Bool.and_false, Bool.false_and, Bool.or_false, Bool.or_true, Bool.true_or, Bool.false_or, List.isEmpty_cons, List.isEmpty_nil, Bool.not_true, Bool.not_false, and_true, true_and, and_self, ne_eq, not_false_eq_true, List.length_map, cmpint, slice_il])
    · exact Eq.trans (v_list (s_cons v_int (s_cons v_int (s_cons v_int (s_cons v_int (s_cons v_int (s_cons v_int s_nil)))))) rfl) (by simp only [List.length_cons, List.length_nil, if_true, if_false, reduceIte, reduceCtorEq, Option.map_some, Option.map_none, Int.reduceLE, Int.reduceLT, Int.reduceToNat, List.getElem?_cons_zero, List.getElem?_cons_succ, cmp1i, cmp1in, Bool.false_eq_true, or_false, or_true, true_or, false_or, beq_self_eq_true, Nat.reduceAdd, decide_true, decide_false, binop_add, binop_sub, Bool.and_true, Bool.true_and, Bool.and_false, Bool.false_and, Bool.or_false, Bool.or_true, Bool.true_or, Bool.false_or, List.isEmpty_cons, List.isEmpty_nil, Bool.not_true, Bool.not_false, and_true, true_and, and_self, ne_eq, not_false_eq_true, List.length_map, cmpint, il, List.map_cons, List.map_nil])
  generalize hns : numsOf xs = ns at n1 n16
  -- code
  have hsz : (ns.length : Int) ≠ 0 := by omega
  have wf0 : ∀ r ∈ ns.map (fun v => rowOf v ns.length), r.wf := fun r hr => by
    obtain ⟨v, _, rfl⟩ := List.mem_map.mp hr
    exact (rowOf_ok v hsz).1
  have len0 : (ns.map (fun v => rowOf v ns.length)).length = ns.length := List.length_map ..
  refine skip (Γ' := ((emp.set "script" (.list (il xs)) false).set "numbers" (.list (il ns)) false).set "code" (rws (ns.map fun v => rowOf v ns.length)) true) ?_ ?_
  · refine ecomp_own rfl rfl rfl rfl rfl (evComp_ok (items := il ns) rfl (by exact rfl) ⟨rfl, rfl, rfl⟩ (by exact (i_name set_eq rfl)) (by rw [hl]; omega) ?_)
    have hf : (ns.map fun v => rowOf v ns.length).map row = (il ns).map (fun d => match d with | .int v => row (rowOf v ns.length) | d => d) := by simp [il, List.map_map]
    rw [hf]
    refine compL_map _ _ fun d hd => ?_
    obtain ⟨v, hv, rfl⟩ := List.mem_map.mp hd
    have hφ := (rowOf_ok v hsz).2
    exact ⟨rfl, by exact (v_call (set_ne rfl (on_out rfl)) rfl (c_fun rfl rfl (s_cons (v_name set_eq) (s_cons (v_call (set_ne rfl (on_out rfl)) rfl (c_len rfl (b_name (set_ne rfl (on_in rfl set_eq))) u_lenm)) s_nil)) hφ))⟩
  generalize ns.map (fun v => rowOf v ns.length) = code0 at wf0 len0
  -- clauses
  have hsz0 : (code0.length : Int) ≠ 0 := by omega
  obtain ⟨cs, hcs, hφc⟩ := f_law_clauses (match xs with | [] => 205 | a :: _ => a) code0.length hsz0
  have hrl : (code0.map row).length = code0.length := List.length_map ..
  refine skip (Γ' := (((emp.set "script" (.list (il xs)) false).set "numbers" (.list (il ns)) false).set "code" (rws code0) true).set "clauses" (cls cs) false) ?_ ?_
  · refine eassign_call rfl rfl ?_
    cases xs with
    | nil =>
      simp only [] at hφc
      exact (v_call (set_ne rfl (set_ne rfl (set_ne rfl emp_eq))) rfl (c_fun rfl rfl (s_cons (v_if (t_name (set_ne rfl (set_ne rfl set_eq)) (r_list rfl)) (if_ff (nt_f rfl) v_int)) (s_cons (v_call (set_ne rfl (set_ne rfl (set_ne rfl emp_eq))) rfl (c_len rfl (b_name set_eq) u_lenr)) s_nil)) hφc))
    | cons a r =>
      simp only [] at hφc
      exact (v_call (set_ne rfl (set_ne rfl (set_ne rfl emp_eq))) rfl (c_fun rfl rfl (s_cons (v_if (t_name (set_ne rfl (set_ne rfl set_eq)) (r_list rfl)) (if_tt (nt_t rfl) (v_sub rfl (b_name (set_ne rfl (set_ne rfl set_eq))) v_int rfl))) (s_cons (v_call (set_ne rfl (set_ne rfl (set_ne rfl emp_eq))) rfl (c_len rfl (b_name set_eq) u_lenr)) s_nil)) hφc))
  -- the empty code
  have step4 : ∀ {Γ : Vars} {st : Stmt} {r : List Stmt} {n : Nat} {sc : Scope} {I : List Row → Vars → Prop}, (∃ code1 Γ', ex T26 frz n sc Γ st = .nxt Γ' ∧ I code1 Γ') → (∀ code1 Γ', I code1 Γ' → ∃ Γ₂ code cs, Ready Γ₂ code cs ∧ exs T26 frz n sc Γ' r = .nxt Γ₂) → ∃ Γ₂ code cs, Ready Γ₂ code cs ∧ exs T26 frz (n + 1) sc Γ (st :: r) = .nxt Γ₂ :=
    fun ⟨c1, Γ1, e, i⟩ k => skip e (k c1 Γ1 i)
  refine step4 (I := fun code1 Γ' => (∀ r ∈ code1, r.wf) ∧ code1.length ≤ 16 ∧ Γ' "code" = some (rws code1, true) ∧ Γ' "clauses" = some (cls cs, false) ∧ Γ' "_law_good" = none ∧ Γ' "_law_threaded" = none ∧ Γ' "list" = none ∧ Γ' "thread_in" = none) ?_ ?_
  · have fin : ∀ c : Bool, ∀ {st : Stmt} {n : Nat} {sc : Scope} {Γ Γe : Vars}, ex T26 frz n sc Γ st = (if c then .nxt (Γ.set "code" (.list []) true) else .nxt Γ) → (Γ "code" = some (rws code0, true) ∧ Γ "clauses" = some (cls cs, false) ∧ Γ "_law_good" = none ∧ Γ "_law_threaded" = none ∧ Γ "list" = none ∧ Γ "thread_in" = none) →
        ∃ code1 Γ', ex T26 frz n sc Γ st = .nxt Γ' ∧ ((∀ r ∈ code1, r.wf) ∧ code1.length ≤ 16 ∧ Γ' "code" = some (rws code1, true) ∧ Γ' "clauses" = some (cls cs, false) ∧ Γ' "_law_good" = none ∧ Γ' "_law_threaded" = none ∧ Γ' "list" = none ∧ Γ' "thread_in" = none) := by
      intro c st n sc Γ Γe e ⟨h1, h2, h3, h4, h5, h6⟩
      cases c with
      | true => exact ⟨[], _, e, fun r hr => (by cases hr), by decide, by exact Eq.trans set_eq rfl, by exact (set_ne rfl h2), by exact (set_ne rfl h3), by exact (set_ne rfl h4), by exact (set_ne rfl h5), by exact (set_ne rfl h6)⟩
      | false => exact ⟨code0, Γ, e, wf0, by omega, h1, h2, h3, h4, h5, h6⟩
    have hset : ∀ {c : Bool} {n : Nat} {sc : Scope} {Γ : Vars} {st : Stmt}, ex T26 frz (n + 1) sc Γ st = .nxt (Γ.set "code" (.list []) true) → (if c then exs T26 frz (n + 2) sc Γ [st] else exs T26 frz (n + 2) sc Γ []) = (if c then .nxt (Γ.set "code" (.list []) true) else .nxt Γ) := by
      intro c n sc Γ st e
      cases c with
      | true => exact exs_nxt e exs_nil
      | false => exact (exs_nil : exs T26 frz ((n + 1) + 1) sc Γ [] = .nxt Γ)
    refine fin (decide (1 < xs.length) && ((match xs with | _ :: b :: _ => b | _ => 0).fmod 53 == 52)) (Γe := emp) (eif (c := decide (1 < xs.length) && ((match xs with | _ :: b :: _ => b | _ => 0).fmod 53 == 52)) rfl ?_ (hset (by exact (x_set0 rfl rfl)))) ⟨?_, ?_, ?_, ?_, ?_, ?_⟩
    · match xs with
      | [] => exact Eq.trans (t_all (a_and (t_cmp (v_call (set_ne rfl (set_ne rfl (set_ne rfl (set_ne rfl emp_eq)))) rfl (c_len rfl (b_name (set_ne rfl (set_ne rfl (set_ne rfl set_eq)))) u_lenm)) (h_one (b_else rfl v_int) (m_gt rfl))) (and_f rfl))) (by simp only [List.length_cons, List.length_nil, if_true, if_false, reduceIte, reduceCtorEq, Option.map_some, Option.map_none, Int.reduceLE, Int.reduceLT, Int.reduceToNat, List.getElem?_cons_zero, List.getElem?_cons_succ, cmp1i, cmp1in, Bool.false_eq_true, or_false, or_true, true_or, false_or, beq_self_eq_true, Nat.reduceAdd, decide_true, decide_false, binop_add, binop_sub, Bool.and_true, Bool.true_and, Bool.and_false, Bool.false_and, Bool.or_false, Bool.or_true, Bool.true_or, Bool.false_or, List.isEmpty_cons, List.isEmpty_nil, Bool.not_true, Bool.not_false, and_true, true_and, and_self, ne_eq, not_false_eq_true, List.length_map, cmpint, cmpgt, il, List.map_nil]; rfl)
      | [a] => exact Eq.trans (t_all (a_and (t_cmp (v_call (set_ne rfl (set_ne rfl (set_ne rfl (set_ne rfl emp_eq)))) rfl (c_len rfl (b_name (set_ne rfl (set_ne rfl (set_ne rfl set_eq)))) u_lenm)) (h_one (b_else rfl v_int) (m_gt rfl))) (and_f rfl))) (by simp only [List.length_cons, List.length_nil, if_true, if_false, reduceIte, reduceCtorEq, Option.map_some, Option.map_none, Int.reduceLE, Int.reduceLT, Int.reduceToNat, List.getElem?_cons_zero, List.getElem?_cons_succ, cmp1i, cmp1in, Bool.false_eq_true, or_false, or_true, true_or, false_or, beq_self_eq_true, Nat.reduceAdd, decide_true, decide_false, binop_add, binop_sub, Bool.and_true, Bool.true_and, Bool.and_false, Bool.false_and, Bool.or_false, Bool.or_true, Bool.true_or, Bool.false_or, List.isEmpty_cons, List.isEmpty_nil, Bool.not_true, Bool.not_false, and_true, true_and, and_self, ne_eq, not_false_eq_true, List.length_map, cmpint, cmpgt, il, List.map_cons, List.map_nil]; rfl)
      | a :: b :: r =>
        have hlen : decide ((((il (a :: b :: r)).length : Nat) : Int) > 1) = true := by rw [decide_eq_true_eq, hl]; simp; omega
        have hlen2 : decide (1 < (a :: b :: r).length) = true := by simp
        have hlen3 : decide ((((a :: b :: r).length : Nat) : Int) > 1) = true := by rw [decide_eq_true_eq, List.length_cons, List.length_cons]; omega
        have hi : index (.list (il (a :: b :: r))) (.int 1) = .ok (.int b) := rfl
        rw [hlen2]
        exact Eq.trans (t_all (a_and (t_cmp (v_call (set_ne rfl (set_ne rfl (set_ne rfl (set_ne rfl emp_eq)))) rfl (c_len rfl (b_name (set_ne rfl (set_ne rfl (set_ne rfl set_eq)))) u_lenm)) (h_one (b_else rfl v_int) (m_gt hlen3))) (and_t rfl (a_and (t_cmp (v_bin (v_sub rfl (b_name (set_ne rfl (set_ne rfl (set_ne rfl set_eq)))) v_int hi) v_int (md rfl rfl)) (h_one (b_else rfl v_int) (m_eq rfl))) (and_w a_nila))))) (by simp only [List.length_cons, List.length_nil, if_true, if_false, reduceIte, reduceCtorEq, Option.map_some, Option.map_none, Int.reduceLE, Int.reduceLT, Int.reduceToNat, List.getElem?_cons_zero, List.getElem?_cons_succ, cmp1i, cmp1in, Bool.false_eq_true, or_false, or_true, true_or, false_or, beq_self_eq_true, Nat.reduceAdd, decide_true, decide_false, binop_add, binop_sub, Bool.and_true, Bool.true_and, Bool.and_false, Bool.false_and, Bool.or_false, Bool.or_true, Bool.true_or, Bool.false_or, List.isEmpty_cons, List.isEmpty_nil, Bool.not_true, Bool.not_false, and_true, true_and, and_self, ne_eq, not_false_eq_true, List.length_map, cmpint, cmpgt, hlen, hi, m53])
    all_goals (first | exact (set_ne rfl set_eq) | exact set_eq | exact (set_ne rfl (set_ne rfl (set_ne rfl (set_ne rfl emp_eq)))))
  intro code1 Γ4 ⟨wf1, len1, g1, g2, g3, g4, g5, g6⟩
  -- want
  have z1 : (Γ4.freeze ["code"]) "code" = some (rws code1, false) := by exact (fr_in rfl g1)
  have z2 : (Γ4.freeze ["code"]) "clauses" = some (cls cs, false) := by exact (fr_out rfl g2)
  have z3 : (Γ4.freeze ["code"]) "_law_good" = none := by exact (fr_none g3)
  have z4 : (Γ4.freeze ["code"]) "_law_threaded" = none := by exact (fr_none g4)
  have z5 : (Γ4.freeze ["code"]) "list" = none := by exact (fr_none g5)
  have z6 : (Γ4.freeze ["code"]) "thread_in" = none := by exact (fr_none g6)
  have hgood := f_law_good (code := code1) (cs := cs) (by omega) wf1
  refine skip (Γ' := (Γ4.freeze ["code"]).set "want" (if goodT code1 cs then pairD (lawT code1 cs) else .none) false) (eifexpZ (c := goodT code1 cs) rfl rfl ?_ (fun hg => ?_) (fun hg => ?_)) ?_
  · change evT T26 _ _ (Γ4.freeze ["code"]) _ = _
    exact (t_else rfl (v_call z3 rfl (c_fun rfl rfl (s_cons (v_name z1) (s_cons (v_name z2) s_nil)) hgood)) (r_bool rfl))
  · have hthr := f_law_threaded (code := code1) (cs := cs) (by omega) (by omega) wf1 hg
    exact ev_call2 z4 rfl (by decide) L26_law_threaded z1 z2 hthr
  · exact v_non
  generalize Γ4.freeze ["code"] = Γ5 at z1 z2 z3 z4 z5 z6
  -- given
  have z1' : Γ5 "code" = some (.list (code1.map row), false) := z1
  have z2' : Γ5 "clauses" = some (.list (cs.map cl), false) := z2
  refine skip (Γ' := (Γ5.set "want" (if goodT code1 cs then pairD (lawT code1 cs) else .none) false).set "given" (pairD (code1, cs)) false) (by exact Eq.trans (x_set rfl rfl rfl (v_tup (s_cons (v_call (set_ne rfl z5) rfl (c_list rfl (i_name (set_ne rfl z1') rfl))) (s_cons (v_call (set_ne rfl z5) rfl (c_list rfl (i_name (set_ne rfl z2') rfl))) s_nil)) rfl)) (by simp only [List.length_cons, List.length_nil, if_true, if_false, reduceIte, reduceCtorEq, Option.map_some, Option.map_none, Int.reduceLE, Int.reduceLT, Int.reduceToNat, List.getElem?_cons_zero, List.getElem?_cons_succ, cmp1i, cmp1in, Bool.false_eq_true, or_false, or_true, true_or, false_or, beq_self_eq_true, Nat.reduceAdd, decide_true, decide_false, binop_add, binop_sub, Bool.and_true, Bool.true_and, Bool.and_false, Bool.false_and, Bool.or_false, Bool.or_true, Bool.true_or, Bool.false_or, List.isEmpty_cons, List.isEmpty_nil, Bool.not_true, Bool.not_false, and_true, true_and, and_self, ne_eq, not_false_eq_true, List.length_map, cmpint, z1', z2', z5, pairD, rws, cls])) ⟨_, code1, cs, ?_, exs_nil⟩
  exact ⟨wf1, len1, hcs, by exact (set_ne rfl (set_ne rfl z1)), by exact (set_ne rfl (set_ne rfl z2)), by exact (set_ne rfl set_eq), by exact set_eq, by exact (set_ne rfl (set_ne rfl z6))⟩
end
section
set_option maxRecDepth 100000
set_option linter.unusedVariables false
set_option linter.unusedSimpArgs false

section
variable {T : Tab} {n : Nat} {sc : Scope} {Γ : Vars} {f x y : Str} {p px py pa pb qa qb pos pr p1 p2 p3 p4 p5 p6 p7 p8 p9 : Pos} {i j : Nat} {φ : List PyData → Res PyData} {da db D G : PyData} {r : Res PyData}
theorem ev_callG (hΓ : Γ f = none) (hg : isGlob sc f = true) (hnb : f ∉ builtinNames) (hf : T.funs f = some φ) (hx : Γ x = some (.tuple [da, db], false)) (hφ : φ [da, db] = r) :
    ev T (n + 7) sc Γ (.Call (.Name f p) [.Subscript (.Name x px) (.Constant (.int 0) i pa) qa, .Subscript (.Name x py) (.Constant (.int 1) j pb) qb] [] pos) = r := by
  have hs : builtinNames.contains f = false := by simpa using hnb
  exact v_call hΓ hg (c_fun hf (by rw [hs]; rfl) (s_cons (v_sub rfl (b_name hx) v_int rfl) (s_cons (v_sub rfl (b_name hx) v_int rfl) s_nil)) hφ)
theorem ev_ret (h1 : Γ "got" = some (D, false)) (h2 : Γ "want" = some (D, false)) (h3 : Γ "given" = some (.tuple [da, db], false)) (h4 : Γ "code" = some (da, false)) (h5 : Γ "clauses" = some (db, false)) (c1 : cmp1 .Eq D D = .ok true) (c2 : cmp1 .Eq (.tuple [da, db]) (.tuple [da, db]) = .ok true) :
    ev T (n + 11) sc Γ (.BoolOp .And [.Compare (.Name "got" p1) [.Eq] [.Name "want" p2] p3, .Compare (.Name "given" p4) [.Eq] [.Tuple [.Name "code" p5, .Name "clauses" p6] i p7] p8] p9) = .ok (.bool true) := by
  have hs : decide (([da, db] : List PyData).length ≤ szMax) = true := by unfold szMax; rfl
  exact v_or1 (w_and (v_cmp (v_name h1) (h_one (b_name h2) c1)) rfl (andv_t rfl (w_one (v_cmp (v_name h3) (h_one (b_else rfl (v_tup (s_cons (v_name h4) (s_cons (v_name h5) s_nil)) hs)) c2)))))
end

theorem law_tail : ∃ (p1 p2 p3 p4 p5 p6 p7 p8 p9 p10 p11 p12 p13 p14 p15 p16 p17 p18 p19 p20 p21 p22 p23 p24 p25 p26 : Pos) (i1 i2 i3 i4 : Nat), frz p26.line = [] ∧ (bodyOf F_law.1).drop 6 =
    [.Try [.Assign [.Name "got" p1] (.Call (.Name "thread_in" p2) [.Subscript (.Name "given" p3) (.Constant (.int 0) i1 p4) p5, .Subscript (.Name "given" p6) (.Constant (.int 1) i2 p7) p8] [] p9) p10] [.ExceptHandler (some (.Name "BadCode" p11)) none [.Assign [.Name "got" p12] (.Constant .none i3 p13) p14] p15] [] [] p16,
     .Return (some (.BoolOp .And [.Compare (.Name "got" p17) [.Eq] [.Name "want" p18] p19, .Compare (.Name "given" p20) [.Eq] [.Tuple [.Name "code" p21, .Name "clauses" p22] i4 p23] p24] p25)) p26] :=
  ⟨_, _, _, _, _, _, _, _, _, _, _, _, _, _, _, _, _, _, _, _, _, _, _, _, _, _, _, _, _, _, rfl, rfl⟩

section
variable {prog : Program} {w : World} {BC : Addr} {T : Tab} {base xb : Heap} {A : Around} {outer : List Env} {env : Env} {frz : Nat → List Str} {sc : Scope} {old : Kept} {Q : Flow → Shared → Prop} {E : Value → Shared → Prop}
theorem execs_split (SX : ∀ n, SEx prog w BC T base xb A outer env frz sc n) {rest : List Stmt} {Γ' : Vars} : ∀ (pre : List Stmt) (n : Nat) (Γ : Vars) (z : Kept) (s : Shared), exs T frz n sc Γ pre = .nxt Γ' → St prog w base xb outer env sc old z Γ s.heap →
    (∀ z' h' tk, Tr old z z' → St prog w base xb outer env sc old z' Γ' h' → wpAny (model prog w) A (execs rest env) Q E { s with heap := h', toks := tk }) → wpAny (model prog w) A (execs (pre ++ rest) env) Q E s
  | pre, 0, Γ, z, s, h, S, k => by
    have h : Out.bad = Out.nxt Γ' := h
    cases h
  | [], n + 1, Γ, z, s, h, S, k => by
    have h : Out.nxt Γ = Out.nxt Γ' := h
    cases h
    exact k z s.heap s.toks (Tr.refl _ _) S
  | st :: pre, n + 1, Γ, z, s, h, S, k => by
    have h : (ex T frz n sc Γ st).andThen (fun Γ1 => exs T frz n sc Γ1 pre) = Out.nxt Γ' := h
    refine wpAny_execs_cons ((SX n).ex _ _ _ _ _ _ _ S ?_)
    cases he : ex T frz n sc Γ st with
    | nxt Γ1 =>
      rw [he] at h
      exact fun z' h' tk t S' => execs_split SX pre n Γ1 z' { s with heap := h', toks := tk } h S' fun z2 h2 tk2 t2 S2 => k z2 h2 tk2 (t.trans t2) S2
    | ret d => rw [he] at h; cases h
    | exc => rw [he] at h; cases h
    | bad => rw [he] at h; cases h
end

section
variable {prog : Program} {w : World} {s : Shared} {mg mb : Str → Option Value} {loose : List Str} {mean : ExcName → Option Value} {A : Around} {v : Value} {fa : Addr} {xs : List Int} {R : Result → Shared → Prop}
theorem law_run (X : (KH w.params).In s.heap) (TT : Top qv loose mean mg mb s.heap) (hfa : mg "law" = some (.ref fa)) (hh : A.handled = none) (hfr : A.frames = some []) (hdp : A.depth + 40 < recursionLimit) (hun : A.units + 1000 < cLine) (hx : xs.length ≤ 63) (hv : Rep prog w s.heap.get? v (.list (il xs)))
    (hR : ∀ h' tk, (∀ a o, s.heap.get? a = some o → h'.get? a = some o) → R (.ok (.ret (.bool true))) { s with heap := h', toks := tk }) : codeAny (model prog w) A (.call (.ref fa) ⟨[v], []⟩) R s := by
  have W := W26 (prog := prog) X TT
  have hBC := hBC_ X TT
  have RO := raise_ok (prog := prog) X (topRead_of TT)
  obtain ⟨a, o, pm, cd, doc, e1, e2, e3, e4⟩ := fnOf TT (n := "law") (fd := F_law.1) (by kernel_rfl)
  have ea : a = fa := by rw [e1] at hfa; cases hfa; rfl
  subst ea
  have hbind : ∀ vals : List Value, (["script"] : List Str).length = vals.length → bindArgs (docDef F_law.1.name F_law.1.params (bodyOf F_law.1) F_law.1.scope pm cd doc) ⟨vals, []⟩ = pure ((["script"] : List Str).zip vals) :=
    fun vals h => match vals, h with | [v0], _ => rfl
  have hst : (["script"] : List Str).all (storable F_law.1.scope) = true := by decide +kernel
  have hk : F_law.1.scope.kind = .function := by kernel_rfl
  have hco : F_law.1.scope.isCoroutine = false := by kernel_rfl
  have hgen : F_law.1.scope.isGenerator = false := by kernel_rfl
  have hst2 : storable F_law.1.scope "got" = true := by decide +kernel
  have hgl : isGlob F_law.1.scope "BadCode" = true := by decide +kernel
  have hgl2 : isGlob F_law.1.scope "thread_in" = true := by decide +kernel
  obtain ⟨Γ, code, cs, RD, hpre⟩ := law_pre xs hx
  obtain ⟨p1, p2, p3, p4, p5, p6, p7, p8, p9, p10, p11, p12, p13, p14, p15, p16, p17, p18, p19, p20, p21, p22, p23, p24, p25, p26, i1, i2, i3, i4, hz, htail⟩ := law_tail
  have hbody : bodyOf F_law.1 = (bodyOf F_law.1).take 6 ++ (bodyOf F_law.1).drop 6 := (List.take_append_drop 6 _).symm
  rw [htail] at hbody
  generalize (bodyOf F_law.1).take 6 = pre at hpre hbody
  generalize F_law.1.scope = sc at *
  generalize F_law.1.name = nm at *
  generalize F_law.1.params = params at *
  generalize bodyOf F_law.1 = body at *
  refine codeAny_call_cells (fd := docDef nm params body sc pm cd doc) (body := body) (binds := (["script"] : List Str).zip [v]) (by omega) e2 e3 W.nolimit e4 rfl (hbind [v] rfl) rfl (fun x hx => ?_) (fun s₁ x => ?_) hco hgen hk
  · have := List.all_eq_true.mp hst x.1 (List.of_mem_zip hx).1
    simp only [storable, Bool.and_eq_true, Bool.not_eq_true', isLoc, Bool.or_eq_true, beq_iff_eq] at this
    rcases this.1.1 with q | q
    · exact .inl q
    · exact .inr ⟨q, cellsFrom_some (x := x.1) sc.names (s.heap.objs.size + 1) [] (.inl q)⟩
  · have S := St.start (prog := prog) (w := w) (base := s.heap) (xb := s.heap) (fr := []) (A := A) (z := s.heap.get?) (ds := [.list (il xs)]) (fun a o e => e) (fun a o e => e) trivial (fun a o e => e) (.cons hv .nil) hst (by decide) hk x
    obtain ⟨h1', tk1, rfl, hkeep⟩ := x.done
    generalize hE : callEnvC (docDef nm params body sc pm cd doc) s.heap.objs.size a = env at S ⊢
    have hRm : Room (A.deeper env) [env] 27 := ⟨hh, by show A.frames.map _ = _; rw [hfr]; rfl, by show A.depth + 1 + 27 < _; omega, by show A.units + 3 + 16 * 27 + 128 < _; omega⟩
    rw [hbody]
    refine execs_split (fun n => sndx (frz := frz) hRm (by decide) W hBC RO n) pre 60 _ _ _ hpre S fun z1 h2 tk2 t1 S1 => ?_
    have hgiven : Γ "given" = some (.tuple [rws code, cls cs], false) := RD.hgiven
    have hth := f_thread_in (code := code) (cs := cs) RD.wf (by have := RD.len; omega) (by have := RD.clen; omega)
    have hev := ev_callG (T := T26) (n := 33) (sc := sc) (p := p2) (px := p3) (py := p6) (pa := p4) (pb := p7) (qa := p5) (qb := p8) (pos := p9) (i := i1) (j := i2) RD.hthread hgl2 (by decide) L26_thread_in hgiven hth
    rw [threads_eq (cs0 := cs) (by have := RD.len; omega) RD.wf] at hev
    refine wpAny_execs_cons (ex_try (n := 40) hRm W hBC (X _ _ (cls44 w.params)) S1 hst2 (by rfl) hgl ?_)
    have hrest : ∀ D : PyData, cmp1 .Eq D D = .ok true → D = (if goodT code cs then pairD (lawT code cs) else .none) → FineO prog w 44 s.heap s.heap [] env sc s.heap.get? z1 { s with heap := h2, toks := tk2 }
        (fun f s' => match f with | .next => wpAny (model prog w) (A.deeper env) (execs [.Return (some (.BoolOp .And [.Compare (.Name "got" p17) [.Eq] [.Name "want" p18] p19, .Compare (.Name "given" p20) [.Eq] [.Tuple [.Name "code" p21, .Name "clauses" p22] i4 p23] p24] p25)) p26] env) (fun f s' => R (.ok (.ret (match f with | .ret v => v | _ => .none))) s') (fun e s' => wpAny (model prog w) (A.deeper env) (leaving env e) (fun _ s'' => R (.error e) s'') (fun e' s'' => R (.error e') s'') s') s' | f => R (.ok (.ret (match f with | .ret v => v | _ => .none))) s')
        (fun e s' => wpAny (model prog w) (A.deeper env) (leaving env e) (fun _ s'' => R (.error e) s'') (fun e' s'' => R (.error e') s'') s') (.nxt (Γ.set "got" D false)) := by
      intro D hc hD z2 h3 tk3 t2 S2
      have hexs : exs T26 frz 20 sc (Γ.set "got" D false) [.Return (some (.BoolOp .And [.Compare (.Name "got" p17) [.Eq] [.Name "want" p18] p19, .Compare (.Name "given" p20) [.Eq] [.Tuple [.Name "code" p21, .Name "clauses" p22] i4 p23] p24] p25)) p26] = .ret (.bool true) := by
        refine exs_ret ?_
        have := ev_ret (T := T26) (n := 7) (sc := sc) (Γ := Γ.set "got" D false) (D := D) (da := rws code) (db := cls cs) (p1 := p17) (p2 := p18) (p3 := p19) (p4 := p20) (p5 := p21) (p6 := p22) (p7 := p23) (p8 := p24) (p9 := p25) (i := i4) rfl
          (by rw [set_app, if_neg (by decide), RD.hwant, hD]) (by rw [set_app, if_neg (by decide), hgiven]) (by rw [set_app, if_neg (by decide), RD.hcode]) (by rw [set_app, if_neg (by decide), RD.hclauses]) hc (cmp_pair (code, cs))
        exact x_ret hz this
      refine (sndx (frz := frz) hRm (by decide) W hBC RO 20).exs _ _ _ _ _ _ _ S2 ?_
      rw [hexs]
      intro v' z3 h4 tk4 t3 k1 k2 r
      cases r
      exact hR h4 tk4 k1
    cases hg : goodT code cs with
    | true =>
      rw [hg] at hev
      rw [hev]
      exact hrest _ (cmp_pair _) (by rw [hg]; rfl)
    | false =>
      rw [hg] at hev
      rw [hev]
      exact hrest _ cmp_none (by rw [hg]; rfl)
end
end
section
set_option maxRecDepth 100000
set_option linter.unusedVariables false

theorem ofPys_ints : ∀ xs : List Int, ofPys (xs.map PyData.int) = xs.map WData.int
  | [] => rfl
  | x :: xs => by
    show ofPy (.int x) :: ofPys (xs.map PyData.int) = _
    rw [ofPys_ints xs]; rfl
theorem well_ints {prog : Program} {w : World} {P : Params} {h : Heap} {z : Kept} : ∀ {vs : List Value} {xs : List Int}, WellAll P h vs (xs.map WData.int) → Reps prog w z vs (il xs)
  | vs, [], x => by
    cases x; exact .nil
  | vs, a :: xs, x => by
    cases x with
    | cons h1 h2 =>
      cases h1
      exact .cons (.int _ _) (well_ints h2)
theorem well_rep {prog : Program} {w : World} {P : Params} {h : Heap} {a : Addr} {xs : List Int} (hx : xs.length ≤ 63) (x : Well P h (.ref a) (ofPy (.list (xs.map .int)))) : Rep prog w h.get? (.ref a) (.list (il xs)) := by
  have e : ofPy (.list (xs.map .int)) = .list (xs.map WData.int) := by rw [← ofPys_ints]; rfl
  rw [e] at x
  cases x with
  | list h1 h2 =>
    have r := well_ints (prog := prog) (w := w) (z := h.get?) h2
    refine .list (n := 0) h1 ?_ r
    have := r.length
    rw [this, show (il xs).length = xs.length by simp [il], sizeLine_eq]; omega

set_option maxHeartbeats 8000000 in
theorem holds : PySem.Challenge.rw_sa0224_01.Holds := Mine.hd2 (by
  intro w s₀ s₁ mg mb G Y fa o pm cd doc dV kV ho hd hcd hD hmg hg args vals as hpre hlay hrd hwl hlo
  have KX := kIn_of Y
  have X := (Ground.X G).1
  have V := (Ground.X G).2
  refine Ground.open G ?_
  intro T B D TE TW
  try (refine guard_noD D (by decide +kernel) ?_; clear D)
  wrow_args hpre hlay hrd hwl hlo
  all_goals (
    first | refine callC_kw (enter_call ?_) | refine enter_call ?_ | refine callC_kw (enter_callW ?_) | refine enter_callW ?_ | w_how)
  all_goals w_top on
  all_goals (clear ho hd hcd)
  refine law_run KX T hmg rfl rfl (by decide +kernel) (by decide +kernel) ?_ (well_rep ?_ (by assumption)) ?_
  · omega
  · omega
  · intro h' tk k
    refine ⟨.inl ⟨.bool true, .bool true, [], rfl, fun cls => rfl, .bool true, (by wrow_post), fun _ => ⟨List.nodup_nil, fun a ha => by cases ha⟩⟩, .of_keep k, rfl, ?_⟩
    exact AllBare.of_eq hg)
end
end Mine
set_option maxRecDepth 100000 in
set_option maxHeartbeats 8000000 in
theorem PySem.Challenge.cw_sa0224_01_holds : PySem.Challenge.rw_sa0224_01.Holds := by
  exact Mine.holds
