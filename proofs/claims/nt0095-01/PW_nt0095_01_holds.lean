import PyProof.Rows.All
import Wide.All
import OpenK.AllK
import Wide.FinOn
import PySem.Challenge.RW_nt0095_01
open PySem PySem.W PyProof.Rows
set_option Elab.async false
set_option maxRecDepth 100000
set_option maxHeartbeats 8000000
set_option linter.unusedVariables false
set_option compiler.extract_closed false
namespace Mine

/-- the head in pieces: the states between the statements of the top, the checks of the runs between them, the looks at the end -/
abbrev headP : Program := PySem.Challenge.rw_nt0095_01.row.prog
noncomputable def headSt (i : Nat) : Stmt := headP.main.body[i]?.getD (.Pass ⟨0, 0, 0, 0⟩)
noncomputable def headSub (i j : Nat) : Stmt := match headSt i with
  | .ClassDef _ _ _ b _ _ _ _ _ _ _ => b[j]?.getD (.Pass ⟨0, 0, 0, 0⟩)
  | s => s
noncomputable def headArgs : Stmt → Arguments
  | .FunctionDef _ a _ _ _ _ _ _ _ _ => a
  | _ => ⟨[], [], none, [], [], none, []⟩
noncomputable def headBody : Stmt → List Stmt
  | .FunctionDef _ _ b _ _ _ _ _ _ _ => b
  | _ => []
noncomputable def headScope : Stmt → Scope
  | .FunctionDef _ _ _ _ _ _ s _ _ _ => s
  | _ => headP.main.scope
noncomputable def headO0 (P : Params) : Obj := { cls := Value.type "tuple", data := Data.seq #[] }
noncomputable def headO1 (P : Params) : Obj := { cls := Value.none, data := Data.fields #[] }
noncomputable def headO2 (P : Params) : Obj := { cls := Value.type "code", data := Data.fields #[Value.str (Str.ofString "<module>") 182, Value.str (Str.ofString "<module>") 183, Value.str (Str.ofString "/claim/cut.py") 184, Value.int 1 0, Value.int 0 0, Value.int 0 0, Value.int 0 0, Value.int 0 0, Value.ref 11, Value.bool false, Value.int 181 0, Value.ref 12, Value.none, Value.none, Value.none, Value.none, Value.int 185 0, Value.int 1 0, Value.str (Str.ofString "/claim/cut.py") 186] }
noncomputable def headO3 (P : Params) : Obj := { cls := Value.type "frame", slots := #[some (Value.ref 13), some (Value.ref 3), some (Value.ref 3), none, some (Value.str (Str.ofString "__main__") 164), none, some (Value.ref 0)] }
noncomputable def headO4 (P : Params) : Obj := { cls := Value.none, data := Data.dict #[{ hash := PyData.keyHash P (Str.ofString "type.__subclasses__.Exception.0"), key := Value.str (Str.ofString "type.__subclasses__.Exception.0") 214, val := Value.int 31 0 }, { hash := PyData.keyHash P (Str.ofString "type.__subclasses__.Exception.n"), key := Value.str (Str.ofString "type.__subclasses__.Exception.n") 215, val := Value.int 1 0 }] 2 }
noncomputable def headO5 (P : Params) : Obj := { cls := Value.type "dict", data := Data.dict #[{ hash := PyData.keyHash P (Str.ofString "__name__"), key := Value.str (Str.ofString "__name__") 165, val := Value.str (Str.ofString "pagebase.text_match") 245 }, { hash := PyData.keyHash P (Str.ofString "__doc__"), key := Value.str (Str.ofString "__doc__") 166, val := Value.none }, { hash := PyData.keyHash P (Str.ofString "__package__"), key := Value.str (Str.ofString "__package__") 167, val := Value.none }, { hash := PyData.keyHash P (Str.ofString "__loader__"), key := Value.str (Str.ofString "__loader__") 168, val := Value.builtin "__main__.__loader__#opaque" }, { hash := PyData.keyHash P (Str.ofString "__spec__"), key := Value.str (Str.ofString "__spec__") 169, val := Value.none }, { hash := PyData.keyHash P (Str.ofString "__annotations__"), key := Value.str (Str.ofString "__annotations__") 170, val := Value.ref 6 }, { hash := PyData.keyHash P (Str.ofString "__builtins__"), key := Value.str (Str.ofString "__builtins__") 171, val := Value.ref 4 }, { hash := PyData.keyHash P (Str.ofString "__file__"), key := Value.str (Str.ofString "__file__") 173, val := Value.str (Str.ofString "/claim/cut.py") 172 }, { hash := PyData.keyHash P (Str.ofString "__cached__"), key := Value.str (Str.ofString "__cached__") 174, val := Value.none }, { hash := PyData.keyHash P (Str.ofString "PagebaseError"), key := Value.str (Str.ofString "PagebaseError") 217, val := Value.ref 31 }, { hash := PyData.keyHash P (Str.ofString "SqlError"), key := Value.str (Str.ofString "SqlError") 233, val := Value.ref 44 }, { hash := PyData.keyHash P (Str.ofString "fold_ascii"), key := Value.str (Str.ofString "fold_ascii") 244, val := Value.ref 53 }, { hash := PyData.keyHash P (Str.ofString "ANY"), key := Value.str (Str.ofString "ANY") 248, val := Value.int 0 247 }, { hash := PyData.keyHash P (Str.ofString "ONE"), key := Value.str (Str.ofString "ONE") 250, val := Value.int 1 249 }, { hash := PyData.keyHash P (Str.ofString "SIGN"), key := Value.str (Str.ofString "SIGN") 252, val := Value.int 2 251 }, { hash := PyData.keyHash P (Str.ofString "LOT"), key := Value.str (Str.ofString "LOT") 254, val := Value.int 3 253 }] 16 }
noncomputable def headO6 (P : Params) : Obj := { cls := Value.none, data := Data.fields #[Value.int 2 0, Value.int 0 0, Value.ref 20, Value.int 6 0, Value.int 0 0, Value.ref 40, Value.int 9 0, Value.int 0 0, Value.ref 52] }
noncomputable def headO7 (P : Params) : Obj := { cls := Value.type "tuple", data := Data.seq #[Value.type "Exception"] }
noncomputable def headO8 (P : Params) : Obj := { cls := Value.type "builtin_function_or_method", data := Data.fields #[Value.builtin "type.__prepare__", Value.type "type"] }
noncomputable def headO9 (P : Params) : Obj := { cls := Value.type "dict", data := Data.dict #[{ hash := PyData.keyHash P (Str.ofString "__module__"), key := Value.str (Str.ofString "__module__") 196, val := Value.str (Str.ofString "pagebase.errors") 187 }, { hash := PyData.keyHash P (Str.ofString "__qualname__"), key := Value.str (Str.ofString "__qualname__") 198, val := Value.str (Str.ofString "PagebaseError") 197 }, { hash := PyData.keyHash P (Str.ofString "__firstlineno__"), key := Value.str (Str.ofString "__firstlineno__") 200, val := Value.int 2 199 }, { hash := PyData.keyHash P (Str.ofString "__init__"), key := Value.str (Str.ofString "__init__") 208, val := Value.ref 28 }, { hash := PyData.keyHash P (Str.ofString "__static_attributes__"), key := Value.str (Str.ofString "__static_attributes__") 210, val := Value.ref 29 }] 5 }
noncomputable def headO10 (P : Params) : Obj := { cls := Value.type "tuple", data := Data.seq #[] }
noncomputable def headO11 (P : Params) : Obj := { cls := Value.none, data := Data.fields #[Value.int 4 0, Value.int 4 0, Value.ref 27] }
noncomputable def headO12 (P : Params) : Obj := { cls := Value.type "code", data := Data.fields #[Value.str (Str.ofString "PagebaseError") 191, Value.str (Str.ofString "PagebaseError") 192, Value.str (Str.ofString "/claim/cut.py") 193, Value.int 2 0, Value.int 0 0, Value.int 0 0, Value.int 0 0, Value.int 0 0, Value.ref 18, Value.bool false, Value.int 181 0, Value.ref 19, Value.none, Value.none, Value.none, Value.none, Value.int 194 0, Value.int 2 0, Value.str (Str.ofString "/claim/cut.py") 195] }
noncomputable def headO13 (P : Params) : Obj := { cls := Value.type "frame", slots := #[some (Value.ref 20), some (Value.ref 3), some (Value.ref 17), none, some (Value.str (Str.ofString "pagebase.errors") 187), none, some (Value.ref 0)] }
noncomputable def headO14 (P : Params) : Obj := { cls := Value.type "tuple", data := Data.seq #[] }
noncomputable def headO15 (P : Params) : Obj := { cls := Value.none, data := Data.fields #[] }
noncomputable def headO16 (P : Params) : Obj := { cls := Value.type "tuple", data := Data.seq #[Value.str (Str.ofString "self") 204, Value.str (Str.ofString "message") 205] }
noncomputable def headO17 (P : Params) : Obj := { cls := Value.type "tuple", data := Data.seq #[] }
noncomputable def headO18 (P : Params) : Obj := { cls := Value.none, data := Data.func { name := Str.ofString "__init__", qualname := Str.ofString "PagebaseError.__init__", params := headArgs (headSub 1 0), body := FuncBody.stmts (headBody (headSub 1 0)), scope := headScope (headSub 1 0), globals := 0, closure := [], defaults := Value.none, kwdefaults := Value.none } }
noncomputable def headO19 (P : Params) : Obj := { cls := Value.type "code", data := Data.fields #[Value.str (Str.ofString "__init__") 201, Value.str (Str.ofString "PagebaseError.__init__") 202, Value.str (Str.ofString "/claim/cut.py") 203, Value.int 4 0, Value.int 2 0, Value.int 0 0, Value.int 0 0, Value.int 3 0, Value.ref 22, Value.bool true, Value.int 181 0, Value.ref 23, Value.none, Value.ref 24, Value.ref 25, Value.ref 26, Value.int 206 0, Value.int 4 0, Value.str (Str.ofString "/claim/cut.py") 207] }
noncomputable def headO20 (P : Params) : Obj := { cls := Value.type "function", data := Data.func { name := Str.ofString "__init__", qualname := Str.ofString "PagebaseError.__init__", params := headArgs (headSub 1 0), body := FuncBody.stmts (headBody (headSub 1 0)), scope := headScope (headSub 1 0), globals := 3, closure := [], defaults := Value.none, kwdefaults := Value.none, pyModule := Value.str (Str.ofString "pagebase.errors") 187, code := Value.ref 27 } }
noncomputable def headO21 (P : Params) : Obj := { cls := Value.type "tuple", data := Data.seq #[Value.str (Str.ofString "message") 209] }
noncomputable def headO22 (P : Params) : Obj := { cls := Value.type "dict", data := Data.dict #[{ hash := PyData.keyHash P (Str.ofString "__module__"), key := Value.str (Str.ofString "__module__") 196, val := Value.str (Str.ofString "pagebase.errors") 187 }, { hash := PyData.keyHash P (Str.ofString "__firstlineno__"), key := Value.str (Str.ofString "__firstlineno__") 200, val := Value.int 2 199 }, { hash := PyData.keyHash P (Str.ofString "__init__"), key := Value.str (Str.ofString "__init__") 208, val := Value.ref 28 }, { hash := PyData.keyHash P (Str.ofString "__static_attributes__"), key := Value.str (Str.ofString "__static_attributes__") 210, val := Value.ref 29 }, { hash := PyData.keyHash P (Str.ofString "__weakref__"), key := Value.str (Str.ofString "__weakref__") 212, val := Value.ref 32 }, { hash := PyData.keyHash P (Str.ofString "__doc__"), key := Value.str (Str.ofString "__doc__") 213, val := Value.none }] 3 }
noncomputable def headO23 (P : Params) : Obj := { cls := Value.type "type", data := Data.cls { name := Str.ofString "PagebaseError", bases := [Value.type "Exception"], mro := [Value.ref 31, Value.type "Exception", Value.type "BaseException", Value.type "object"], ns := 30, qualname := Str.ofString "PagebaseError", subclasses := [Value.ref 44] }, slots := #[some (Value.ref 15), none, some (Value.str (Str.ofString "PagebaseError") 189), some (Value.str (Str.ofString "PagebaseError") 197), some (Value.builtin "Exception.__new__"), some (Value.bool true)] }
noncomputable def headO24 (P : Params) : Obj := { cls := Value.type "getset_descriptor", data := Data.fields #[Value.str (Str.ofString "__weakref__") 211, Value.ref 31, Value.builtin "ExceptionGroup.__weakref__", Value.none] }
noncomputable def headO25 (P : Params) : Obj := { cls := Value.type "super", data := Data.fields #[Value.ref 31, Value.ref 31, Value.ref 31] }
noncomputable def headO26 (P : Params) : Obj := { cls := Value.type "builtin_function_or_method", data := Data.fields #[Value.builtin "object.__init_subclass__", Value.ref 31] }
noncomputable def headO27 (P : Params) : Obj := { cls := Value.type "tuple", data := Data.seq #[Value.ref 31] }
noncomputable def headO28 (P : Params) : Obj := { cls := Value.type "builtin_function_or_method", data := Data.fields #[Value.builtin "type.__prepare__", Value.type "type"] }
noncomputable def headO29 (P : Params) : Obj := { cls := Value.type "dict", data := Data.dict #[{ hash := PyData.keyHash P (Str.ofString "__module__"), key := Value.str (Str.ofString "__module__") 225, val := Value.str (Str.ofString "pagebase.errors") 187 }, { hash := PyData.keyHash P (Str.ofString "__qualname__"), key := Value.str (Str.ofString "__qualname__") 227, val := Value.str (Str.ofString "SqlError") 226 }, { hash := PyData.keyHash P (Str.ofString "__firstlineno__"), key := Value.str (Str.ofString "__firstlineno__") 229, val := Value.int 6 228 }, { hash := PyData.keyHash P (Str.ofString "__static_attributes__"), key := Value.str (Str.ofString "__static_attributes__") 230, val := Value.ref 42 }] 4 }
noncomputable def headO30 (P : Params) : Obj := { cls := Value.type "tuple", data := Data.seq #[] }
noncomputable def headO31 (P : Params) : Obj := { cls := Value.none, data := Data.fields #[] }
noncomputable def headO32 (P : Params) : Obj := { cls := Value.type "code", data := Data.fields #[Value.str (Str.ofString "SqlError") 220, Value.str (Str.ofString "SqlError") 221, Value.str (Str.ofString "/claim/cut.py") 222, Value.int 6 0, Value.int 0 0, Value.int 0 0, Value.int 0 0, Value.int 0 0, Value.ref 38, Value.bool false, Value.int 181 0, Value.ref 39, Value.none, Value.none, Value.none, Value.none, Value.int 223 0, Value.int 6 0, Value.str (Str.ofString "/claim/cut.py") 224] }
noncomputable def headO33 (P : Params) : Obj := { cls := Value.type "frame", slots := #[some (Value.ref 40), some (Value.ref 3), some (Value.ref 37), none, some (Value.str (Str.ofString "pagebase.errors") 187), none, some (Value.ref 0)] }
noncomputable def headO34 (P : Params) : Obj := { cls := Value.type "tuple", data := Data.seq #[] }
noncomputable def headO35 (P : Params) : Obj := { cls := Value.type "dict", data := Data.dict #[{ hash := PyData.keyHash P (Str.ofString "__module__"), key := Value.str (Str.ofString "__module__") 225, val := Value.str (Str.ofString "pagebase.errors") 187 }, { hash := PyData.keyHash P (Str.ofString "__firstlineno__"), key := Value.str (Str.ofString "__firstlineno__") 229, val := Value.int 6 228 }, { hash := PyData.keyHash P (Str.ofString "__static_attributes__"), key := Value.str (Str.ofString "__static_attributes__") 230, val := Value.ref 42 }, { hash := PyData.keyHash P (Str.ofString "__doc__"), key := Value.str (Str.ofString "__doc__") 231, val := Value.none }] 2 }
noncomputable def headO36 (P : Params) : Obj := { cls := Value.type "type", data := Data.cls { name := Str.ofString "SqlError", bases := [Value.ref 31], mro := [Value.ref 44, Value.ref 31, Value.type "Exception", Value.type "BaseException", Value.type "object"], ns := 43, qualname := Str.ofString "SqlError" }, slots := #[some (Value.ref 35), none, some (Value.str (Str.ofString "SqlError") 218), some (Value.str (Str.ofString "SqlError") 226), some (Value.builtin "Exception.__new__"), some (Value.bool true)] }
noncomputable def headO37 (P : Params) : Obj := { cls := Value.type "super", data := Data.fields #[Value.ref 44, Value.ref 44, Value.ref 44] }
noncomputable def headO38 (P : Params) : Obj := { cls := Value.type "builtin_function_or_method", data := Data.fields #[Value.builtin "object.__init_subclass__", Value.ref 44] }
noncomputable def headO39 (P : Params) : Obj := { cls := Value.type "tuple", data := Data.seq #[] }
noncomputable def headO40 (P : Params) : Obj := { cls := Value.none, data := Data.fields #[] }
noncomputable def headO41 (P : Params) : Obj := { cls := Value.type "tuple", data := Data.seq #[Value.str (Str.ofString "text") 239, Value.str (Str.ofString "signs") 240, Value.str (Str.ofString "sign") 241] }
noncomputable def headO42 (P : Params) : Obj := { cls := Value.type "tuple", data := Data.seq #[] }
noncomputable def headO43 (P : Params) : Obj := { cls := Value.none, data := Data.func { name := Str.ofString "fold_ascii", qualname := Str.ofString "fold_ascii", params := headArgs (headSt 4), body := FuncBody.stmts (headBody (headSt 4)), scope := headScope (headSt 4), globals := 0, closure := [], defaults := Value.none, kwdefaults := Value.none } }
noncomputable def headO44 (P : Params) : Obj := { cls := Value.type "code", data := Data.fields #[Value.str (Str.ofString "fold_ascii") 236, Value.str (Str.ofString "fold_ascii") 237, Value.str (Str.ofString "/claim/cut.py") 238, Value.int 9 0, Value.int 1 0, Value.int 0 0, Value.int 0 0, Value.int 3 0, Value.ref 47, Value.bool true, Value.int 181 0, Value.ref 48, Value.none, Value.ref 49, Value.ref 50, Value.ref 51, Value.int 242 0, Value.int 9 0, Value.str (Str.ofString "/claim/cut.py") 243] }
noncomputable def headO45 (P : Params) : Obj := { cls := Value.type "function", data := Data.func { name := Str.ofString "fold_ascii", qualname := Str.ofString "fold_ascii", params := headArgs (headSt 4), body := FuncBody.stmts (headBody (headSt 4)), scope := headScope (headSt 4), globals := 3, closure := [], defaults := Value.none, kwdefaults := Value.none, pyModule := Value.str (Str.ofString "pagebase.values") 234, code := Value.ref 52 } }
noncomputable def headO46 (P : Params) : Obj := { cls := Value.type "dict", data := Data.dict #[{ hash := PyData.keyHash P (Str.ofString "__name__"), key := Value.str (Str.ofString "__name__") 165, val := Value.str (Str.ofString "pagebase.text_match") 245 }, { hash := PyData.keyHash P (Str.ofString "__doc__"), key := Value.str (Str.ofString "__doc__") 166, val := Value.none }, { hash := PyData.keyHash P (Str.ofString "__package__"), key := Value.str (Str.ofString "__package__") 167, val := Value.none }, { hash := PyData.keyHash P (Str.ofString "__loader__"), key := Value.str (Str.ofString "__loader__") 168, val := Value.builtin "__main__.__loader__#opaque" }, { hash := PyData.keyHash P (Str.ofString "__spec__"), key := Value.str (Str.ofString "__spec__") 169, val := Value.none }, { hash := PyData.keyHash P (Str.ofString "__annotations__"), key := Value.str (Str.ofString "__annotations__") 170, val := Value.ref 6 }, { hash := PyData.keyHash P (Str.ofString "__builtins__"), key := Value.str (Str.ofString "__builtins__") 171, val := Value.ref 4 }, { hash := PyData.keyHash P (Str.ofString "__file__"), key := Value.str (Str.ofString "__file__") 173, val := Value.str (Str.ofString "/claim/cut.py") 172 }, { hash := PyData.keyHash P (Str.ofString "__cached__"), key := Value.str (Str.ofString "__cached__") 174, val := Value.none }, { hash := PyData.keyHash P (Str.ofString "PagebaseError"), key := Value.str (Str.ofString "PagebaseError") 217, val := Value.ref 31 }, { hash := PyData.keyHash P (Str.ofString "SqlError"), key := Value.str (Str.ofString "SqlError") 233, val := Value.ref 44 }, { hash := PyData.keyHash P (Str.ofString "fold_ascii"), key := Value.str (Str.ofString "fold_ascii") 244, val := Value.ref 53 }, { hash := PyData.keyHash P (Str.ofString "ANY"), key := Value.str (Str.ofString "ANY") 248, val := Value.int 0 247 }, { hash := PyData.keyHash P (Str.ofString "ONE"), key := Value.str (Str.ofString "ONE") 250, val := Value.int 1 249 }, { hash := PyData.keyHash P (Str.ofString "SIGN"), key := Value.str (Str.ofString "SIGN") 252, val := Value.int 2 251 }, { hash := PyData.keyHash P (Str.ofString "LOT"), key := Value.str (Str.ofString "LOT") 254, val := Value.int 3 253 }, { hash := PyData.keyHash P (Str.ofString "Part"), key := Value.str (Str.ofString "Part") 300, val := Value.ref 78 }] 17 }
noncomputable def headO47 (P : Params) : Obj := { cls := Value.none, data := Data.fields #[Value.int 2 0, Value.int 0 0, Value.ref 20, Value.int 6 0, Value.int 0 0, Value.ref 40, Value.int 9 0, Value.int 0 0, Value.ref 52, Value.int 22 0, Value.int 0 0, Value.ref 59] }
noncomputable def headO48 (P : Params) : Obj := { cls := Value.type "tuple", data := Data.seq #[] }
noncomputable def headO49 (P : Params) : Obj := { cls := Value.type "builtin_function_or_method", data := Data.fields #[Value.builtin "type.__prepare__", Value.type "type"] }
noncomputable def headO50 (P : Params) : Obj := { cls := Value.type "dict", data := Data.dict #[{ hash := PyData.keyHash P (Str.ofString "__module__"), key := Value.str (Str.ofString "__module__") 262, val := Value.str (Str.ofString "pagebase.text_match") 245 }, { hash := PyData.keyHash P (Str.ofString "__qualname__"), key := Value.str (Str.ofString "__qualname__") 264, val := Value.str (Str.ofString "Part") 263 }, { hash := PyData.keyHash P (Str.ofString "__firstlineno__"), key := Value.str (Str.ofString "__firstlineno__") 266, val := Value.int 22 265 }, { hash := PyData.keyHash P (Str.ofString "__init__"), key := Value.str (Str.ofString "__init__") 277, val := Value.ref 68 }, { hash := PyData.keyHash P (Str.ofString "takes"), key := Value.str (Str.ofString "takes") 288, val := Value.ref 75 }, { hash := PyData.keyHash P (Str.ofString "__static_attributes__"), key := Value.str (Str.ofString "__static_attributes__") 293, val := Value.ref 76 }] 6 }
noncomputable def headO51 (P : Params) : Obj := { cls := Value.type "tuple", data := Data.seq #[] }
noncomputable def headO52 (P : Params) : Obj := { cls := Value.none, data := Data.fields #[Value.int 24 0, Value.int 4 0, Value.ref 67, Value.int 30 0, Value.int 4 0, Value.ref 74] }
noncomputable def headO53 (P : Params) : Obj := { cls := Value.type "code", data := Data.fields #[Value.str (Str.ofString "Part") 257, Value.str (Str.ofString "Part") 258, Value.str (Str.ofString "/claim/cut.py") 259, Value.int 22 0, Value.int 0 0, Value.int 0 0, Value.int 0 0, Value.int 0 0, Value.ref 57, Value.bool false, Value.int 181 0, Value.ref 58, Value.none, Value.none, Value.none, Value.none, Value.int 260 0, Value.int 22 0, Value.str (Str.ofString "/claim/cut.py") 261] }
noncomputable def headO54 (P : Params) : Obj := { cls := Value.type "frame", slots := #[some (Value.ref 59), some (Value.ref 3), some (Value.ref 56), none, some (Value.str (Str.ofString "pagebase.text_match") 245), none, some (Value.ref 0)] }
noncomputable def headO55 (P : Params) : Obj := { cls := Value.type "tuple", data := Data.seq #[Value.none, Value.none, Value.bool false] }
noncomputable def headO56 (P : Params) : Obj := { cls := Value.type "tuple", data := Data.seq #[] }
noncomputable def headO57 (P : Params) : Obj := { cls := Value.none, data := Data.fields #[] }
noncomputable def headO58 (P : Params) : Obj := { cls := Value.type "tuple", data := Data.seq #[Value.str (Str.ofString "self") 270, Value.str (Str.ofString "kind") 271, Value.str (Str.ofString "sign") 272, Value.str (Str.ofString "ranges") 273, Value.str (Str.ofString "negated") 274] }
noncomputable def headO59 (P : Params) : Obj := { cls := Value.type "tuple", data := Data.seq #[] }
noncomputable def headO60 (P : Params) : Obj := { cls := Value.none, data := Data.func { name := Str.ofString "__init__", qualname := Str.ofString "Part.__init__", params := headArgs (headSub 10 0), body := FuncBody.stmts (headBody (headSub 10 0)), scope := headScope (headSub 10 0), globals := 0, closure := [], defaults := Value.none, kwdefaults := Value.none } }
noncomputable def headO61 (P : Params) : Obj := { cls := Value.type "code", data := Data.fields #[Value.str (Str.ofString "__init__") 267, Value.str (Str.ofString "Part.__init__") 268, Value.str (Str.ofString "/claim/cut.py") 269, Value.int 24 0, Value.int 5 0, Value.int 0 0, Value.int 0 0, Value.int 3 0, Value.ref 62, Value.bool true, Value.int 181 0, Value.ref 63, Value.none, Value.ref 64, Value.ref 65, Value.ref 66, Value.int 275 0, Value.int 24 0, Value.str (Str.ofString "/claim/cut.py") 276] }
noncomputable def headO62 (P : Params) : Obj := { cls := Value.type "function", data := Data.func { name := Str.ofString "__init__", qualname := Str.ofString "Part.__init__", params := headArgs (headSub 10 0), body := FuncBody.stmts (headBody (headSub 10 0)), scope := headScope (headSub 10 0), globals := 3, closure := [], defaults := Value.ref 61, kwdefaults := Value.none, pyModule := Value.str (Str.ofString "pagebase.text_match") 245, code := Value.ref 67 } }
noncomputable def headO63 (P : Params) : Obj := { cls := Value.type "tuple", data := Data.seq #[] }
noncomputable def headO64 (P : Params) : Obj := { cls := Value.none, data := Data.fields #[] }
noncomputable def headO65 (P : Params) : Obj := { cls := Value.type "tuple", data := Data.seq #[Value.str (Str.ofString "self") 281, Value.str (Str.ofString "sign") 282, Value.str (Str.ofString "inside") 283, Value.str (Str.ofString "low") 284, Value.str (Str.ofString "high") 285] }
noncomputable def headO66 (P : Params) : Obj := { cls := Value.type "tuple", data := Data.seq #[] }
noncomputable def headO67 (P : Params) : Obj := { cls := Value.none, data := Data.func { name := Str.ofString "takes", qualname := Str.ofString "Part.takes", params := headArgs (headSub 10 1), body := FuncBody.stmts (headBody (headSub 10 1)), scope := headScope (headSub 10 1), globals := 0, closure := [], defaults := Value.none, kwdefaults := Value.none } }
noncomputable def headO68 (P : Params) : Obj := { cls := Value.type "code", data := Data.fields #[Value.str (Str.ofString "takes") 278, Value.str (Str.ofString "Part.takes") 279, Value.str (Str.ofString "/claim/cut.py") 280, Value.int 30 0, Value.int 2 0, Value.int 0 0, Value.int 0 0, Value.int 3 0, Value.ref 69, Value.bool true, Value.int 181 0, Value.ref 70, Value.none, Value.ref 71, Value.ref 72, Value.ref 73, Value.int 286 0, Value.int 30 0, Value.str (Str.ofString "/claim/cut.py") 287] }
noncomputable def headO69 (P : Params) : Obj := { cls := Value.type "function", data := Data.func { name := Str.ofString "takes", qualname := Str.ofString "Part.takes", params := headArgs (headSub 10 1), body := FuncBody.stmts (headBody (headSub 10 1)), scope := headScope (headSub 10 1), globals := 3, closure := [], defaults := Value.none, kwdefaults := Value.none, pyModule := Value.str (Str.ofString "pagebase.text_match") 245, code := Value.ref 74 } }
noncomputable def headO70 (P : Params) : Obj := { cls := Value.type "tuple", data := Data.seq #[Value.str (Str.ofString "kind") 289, Value.str (Str.ofString "negated") 290, Value.str (Str.ofString "ranges") 291, Value.str (Str.ofString "sign") 292] }
noncomputable def headO71 (P : Params) : Obj := { cls := Value.type "dict", data := Data.dict #[{ hash := PyData.keyHash P (Str.ofString "__module__"), key := Value.str (Str.ofString "__module__") 262, val := Value.str (Str.ofString "pagebase.text_match") 245 }, { hash := PyData.keyHash P (Str.ofString "__firstlineno__"), key := Value.str (Str.ofString "__firstlineno__") 266, val := Value.int 22 265 }, { hash := PyData.keyHash P (Str.ofString "__init__"), key := Value.str (Str.ofString "__init__") 277, val := Value.ref 68 }, { hash := PyData.keyHash P (Str.ofString "takes"), key := Value.str (Str.ofString "takes") 288, val := Value.ref 75 }, { hash := PyData.keyHash P (Str.ofString "__static_attributes__"), key := Value.str (Str.ofString "__static_attributes__") 293, val := Value.ref 76 }, { hash := PyData.keyHash P (Str.ofString "__dict__"), key := Value.str (Str.ofString "__dict__") 295, val := Value.ref 79 }, { hash := PyData.keyHash P (Str.ofString "__weakref__"), key := Value.str (Str.ofString "__weakref__") 297, val := Value.ref 80 }, { hash := PyData.keyHash P (Str.ofString "__doc__"), key := Value.str (Str.ofString "__doc__") 298, val := Value.none }] 4 }
noncomputable def headO72 (P : Params) : Obj := { cls := Value.type "type", data := Data.cls { name := Str.ofString "Part", bases := [Value.type "object"], mro := [Value.ref 78, Value.type "object"], ns := 77, qualname := Str.ofString "Part" }, slots := #[none, none, some (Value.str (Str.ofString "Part") 255), some (Value.str (Str.ofString "Part") 263), some (Value.builtin "object.__new__"), some (Value.bool true)] }
noncomputable def headO73 (P : Params) : Obj := { cls := Value.type "getset_descriptor", data := Data.fields #[Value.str (Str.ofString "__dict__") 294, Value.ref 78, Value.builtin "function.__dict__", Value.builtin "function.__dict__#set"] }
noncomputable def headO74 (P : Params) : Obj := { cls := Value.type "getset_descriptor", data := Data.fields #[Value.str (Str.ofString "__weakref__") 296, Value.ref 78, Value.builtin "ExceptionGroup.__weakref__", Value.none] }
noncomputable def headO75 (P : Params) : Obj := { cls := Value.type "super", data := Data.fields #[Value.ref 78, Value.ref 78, Value.ref 78] }
noncomputable def headO76 (P : Params) : Obj := { cls := Value.type "builtin_function_or_method", data := Data.fields #[Value.builtin "object.__init_subclass__", Value.ref 78] }
noncomputable def headO77 (P : Params) : Obj := { cls := Value.type "dict", data := Data.dict #[{ hash := PyData.keyHash P (Str.ofString "__name__"), key := Value.str (Str.ofString "__name__") 165, val := Value.str (Str.ofString "law_nt0095_01") 365 }, { hash := PyData.keyHash P (Str.ofString "__doc__"), key := Value.str (Str.ofString "__doc__") 166, val := Value.none }, { hash := PyData.keyHash P (Str.ofString "__package__"), key := Value.str (Str.ofString "__package__") 167, val := Value.none }, { hash := PyData.keyHash P (Str.ofString "__loader__"), key := Value.str (Str.ofString "__loader__") 168, val := Value.builtin "__main__.__loader__#opaque" }, { hash := PyData.keyHash P (Str.ofString "__spec__"), key := Value.str (Str.ofString "__spec__") 169, val := Value.none }, { hash := PyData.keyHash P (Str.ofString "__annotations__"), key := Value.str (Str.ofString "__annotations__") 170, val := Value.ref 6 }, { hash := PyData.keyHash P (Str.ofString "__builtins__"), key := Value.str (Str.ofString "__builtins__") 171, val := Value.ref 4 }, { hash := PyData.keyHash P (Str.ofString "__file__"), key := Value.str (Str.ofString "__file__") 173, val := Value.str (Str.ofString "/claim/cut.py") 172 }, { hash := PyData.keyHash P (Str.ofString "__cached__"), key := Value.str (Str.ofString "__cached__") 174, val := Value.none }, { hash := PyData.keyHash P (Str.ofString "PagebaseError"), key := Value.str (Str.ofString "PagebaseError") 217, val := Value.ref 31 }, { hash := PyData.keyHash P (Str.ofString "SqlError"), key := Value.str (Str.ofString "SqlError") 233, val := Value.ref 44 }, { hash := PyData.keyHash P (Str.ofString "fold_ascii"), key := Value.str (Str.ofString "fold_ascii") 244, val := Value.ref 53 }, { hash := PyData.keyHash P (Str.ofString "ANY"), key := Value.str (Str.ofString "ANY") 248, val := Value.int 0 247 }, { hash := PyData.keyHash P (Str.ofString "ONE"), key := Value.str (Str.ofString "ONE") 250, val := Value.int 1 249 }, { hash := PyData.keyHash P (Str.ofString "SIGN"), key := Value.str (Str.ofString "SIGN") 252, val := Value.int 2 251 }, { hash := PyData.keyHash P (Str.ofString "LOT"), key := Value.str (Str.ofString "LOT") 254, val := Value.int 3 253 }, { hash := PyData.keyHash P (Str.ofString "Part"), key := Value.str (Str.ofString "Part") 300, val := Value.ref 78 }, { hash := PyData.keyHash P (Str.ofString "matches"), key := Value.str (Str.ofString "matches") 312, val := Value.ref 89 }, { hash := PyData.keyHash P (Str.ofString "like_parts"), key := Value.str (Str.ofString "like_parts") 323, val := Value.ref 96 }, { hash := PyData.keyHash P (Str.ofString "like"), key := Value.str (Str.ofString "like") 333, val := Value.ref 104 }, { hash := PyData.keyHash P (Str.ofString "lot_at"), key := Value.str (Str.ofString "lot_at") 344, val := Value.ref 111 }, { hash := PyData.keyHash P (Str.ofString "glob_parts"), key := Value.str (Str.ofString "glob_parts") 355, val := Value.ref 118 }, { hash := PyData.keyHash P (Str.ofString "glob"), key := Value.str (Str.ofString "glob") 364, val := Value.ref 125 }, { hash := PyData.keyHash P (Str.ofString "_law_pool"), key := Value.str (Str.ofString "_law_pool") 377, val := Value.ref 132 }, { hash := PyData.keyHash P (Str.ofString "_law_take"), key := Value.str (Str.ofString "_law_take") 386, val := Value.ref 139 }, { hash := PyData.keyHash P (Str.ofString "_law_one"), key := Value.str (Str.ofString "_law_one") 394, val := Value.ref 146 }] 26 }
noncomputable def headO78 (P : Params) : Obj := { cls := Value.none, data := Data.fields #[Value.int 2 0, Value.int 0 0, Value.ref 20, Value.int 6 0, Value.int 0 0, Value.ref 40, Value.int 9 0, Value.int 0 0, Value.ref 52, Value.int 22 0, Value.int 0 0, Value.ref 59, Value.int 40 0, Value.int 0 0, Value.ref 88, Value.int 62 0, Value.int 0 0, Value.ref 95, Value.int 80 0, Value.int 0 0, Value.ref 103, Value.int 87 0, Value.int 0 0, Value.ref 110, Value.int 107 0, Value.int 0 0, Value.ref 117, Value.int 126 0, Value.int 0 0, Value.ref 124, Value.int 132 0, Value.int 0 0, Value.ref 131, Value.int 139 0, Value.int 0 0, Value.ref 138, Value.int 146 0, Value.int 0 0, Value.ref 145] }
noncomputable def headO79 (P : Params) : Obj := { cls := Value.type "tuple", data := Data.seq #[] }
noncomputable def headO80 (P : Params) : Obj := { cls := Value.none, data := Data.fields #[] }
noncomputable def headO81 (P : Params) : Obj := { cls := Value.type "tuple", data := Data.seq #[Value.str (Str.ofString "parts") 304, Value.str (Str.ofString "text") 305, Value.str (Str.ofString "place") 306, Value.str (Str.ofString "at") 307, Value.str (Str.ofString "back_place") 308, Value.str (Str.ofString "back_at") 309] }
noncomputable def headO82 (P : Params) : Obj := { cls := Value.type "tuple", data := Data.seq #[] }
noncomputable def headO83 (P : Params) : Obj := { cls := Value.none, data := Data.func { name := Str.ofString "matches", qualname := Str.ofString "matches", params := headArgs (headSt 11), body := FuncBody.stmts (headBody (headSt 11)), scope := headScope (headSt 11), globals := 0, closure := [], defaults := Value.none, kwdefaults := Value.none } }
noncomputable def headO84 (P : Params) : Obj := { cls := Value.type "code", data := Data.fields #[Value.str (Str.ofString "matches") 301, Value.str (Str.ofString "matches") 302, Value.str (Str.ofString "/claim/cut.py") 303, Value.int 40 0, Value.int 2 0, Value.int 0 0, Value.int 0 0, Value.int 3 0, Value.ref 83, Value.bool true, Value.int 181 0, Value.ref 84, Value.none, Value.ref 85, Value.ref 86, Value.ref 87, Value.int 310 0, Value.int 40 0, Value.str (Str.ofString "/claim/cut.py") 311] }
noncomputable def headO85 (P : Params) : Obj := { cls := Value.type "function", data := Data.func { name := Str.ofString "matches", qualname := Str.ofString "matches", params := headArgs (headSt 11), body := FuncBody.stmts (headBody (headSt 11)), scope := headScope (headSt 11), globals := 3, closure := [], defaults := Value.none, kwdefaults := Value.none, pyModule := Value.str (Str.ofString "pagebase.text_match") 245, code := Value.ref 88 } }
noncomputable def headO86 (P : Params) : Obj := { cls := Value.type "tuple", data := Data.seq #[] }
noncomputable def headO87 (P : Params) : Obj := { cls := Value.none, data := Data.fields #[] }
noncomputable def headO88 (P : Params) : Obj := { cls := Value.type "tuple", data := Data.seq #[Value.str (Str.ofString "pattern") 316, Value.str (Str.ofString "escape") 317, Value.str (Str.ofString "parts") 318, Value.str (Str.ofString "at") 319, Value.str (Str.ofString "sign") 320] }
noncomputable def headO89 (P : Params) : Obj := { cls := Value.type "tuple", data := Data.seq #[] }
noncomputable def headO90 (P : Params) : Obj := { cls := Value.none, data := Data.func { name := Str.ofString "like_parts", qualname := Str.ofString "like_parts", params := headArgs (headSt 12), body := FuncBody.stmts (headBody (headSt 12)), scope := headScope (headSt 12), globals := 0, closure := [], defaults := Value.none, kwdefaults := Value.none } }
noncomputable def headO91 (P : Params) : Obj := { cls := Value.type "code", data := Data.fields #[Value.str (Str.ofString "like_parts") 313, Value.str (Str.ofString "like_parts") 314, Value.str (Str.ofString "/claim/cut.py") 315, Value.int 62 0, Value.int 2 0, Value.int 0 0, Value.int 0 0, Value.int 3 0, Value.ref 90, Value.bool true, Value.int 181 0, Value.ref 91, Value.none, Value.ref 92, Value.ref 93, Value.ref 94, Value.int 321 0, Value.int 62 0, Value.str (Str.ofString "/claim/cut.py") 322] }
noncomputable def headO92 (P : Params) : Obj := { cls := Value.type "function", data := Data.func { name := Str.ofString "like_parts", qualname := Str.ofString "like_parts", params := headArgs (headSt 12), body := FuncBody.stmts (headBody (headSt 12)), scope := headScope (headSt 12), globals := 3, closure := [], defaults := Value.none, kwdefaults := Value.none, pyModule := Value.str (Str.ofString "pagebase.text_match") 245, code := Value.ref 95 } }
noncomputable def headO93 (P : Params) : Obj := { cls := Value.type "tuple", data := Data.seq #[Value.none] }
noncomputable def headO94 (P : Params) : Obj := { cls := Value.type "tuple", data := Data.seq #[] }
noncomputable def headO95 (P : Params) : Obj := { cls := Value.none, data := Data.fields #[] }
noncomputable def headO96 (P : Params) : Obj := { cls := Value.type "tuple", data := Data.seq #[Value.str (Str.ofString "pattern") 327, Value.str (Str.ofString "text") 328, Value.str (Str.ofString "escape") 329, Value.str (Str.ofString "parts") 330] }
noncomputable def headO97 (P : Params) : Obj := { cls := Value.type "tuple", data := Data.seq #[] }
noncomputable def headO98 (P : Params) : Obj := { cls := Value.none, data := Data.func { name := Str.ofString "like", qualname := Str.ofString "like", params := headArgs (headSt 13), body := FuncBody.stmts (headBody (headSt 13)), scope := headScope (headSt 13), globals := 0, closure := [], defaults := Value.none, kwdefaults := Value.none } }
noncomputable def headO99 (P : Params) : Obj := { cls := Value.type "code", data := Data.fields #[Value.str (Str.ofString "like") 324, Value.str (Str.ofString "like") 325, Value.str (Str.ofString "/claim/cut.py") 326, Value.int 80 0, Value.int 3 0, Value.int 0 0, Value.int 0 0, Value.int 3 0, Value.ref 98, Value.bool true, Value.int 181 0, Value.ref 99, Value.none, Value.ref 100, Value.ref 101, Value.ref 102, Value.int 331 0, Value.int 80 0, Value.str (Str.ofString "/claim/cut.py") 332] }
noncomputable def headO100 (P : Params) : Obj := { cls := Value.type "function", data := Data.func { name := Str.ofString "like", qualname := Str.ofString "like", params := headArgs (headSt 13), body := FuncBody.stmts (headBody (headSt 13)), scope := headScope (headSt 13), globals := 3, closure := [], defaults := Value.ref 97, kwdefaults := Value.none, pyModule := Value.str (Str.ofString "pagebase.text_match") 245, code := Value.ref 103 } }
noncomputable def headO101 (P : Params) : Obj := { cls := Value.type "tuple", data := Data.seq #[] }
noncomputable def headO102 (P : Params) : Obj := { cls := Value.none, data := Data.fields #[] }
noncomputable def headO103 (P : Params) : Obj := { cls := Value.type "tuple", data := Data.seq #[Value.str (Str.ofString "pattern") 337, Value.str (Str.ofString "at") 338, Value.str (Str.ofString "negated") 339, Value.str (Str.ofString "ranges") 340, Value.str (Str.ofString "low") 341] }
noncomputable def headO104 (P : Params) : Obj := { cls := Value.type "tuple", data := Data.seq #[] }
noncomputable def headO105 (P : Params) : Obj := { cls := Value.none, data := Data.func { name := Str.ofString "lot_at", qualname := Str.ofString "lot_at", params := headArgs (headSt 14), body := FuncBody.stmts (headBody (headSt 14)), scope := headScope (headSt 14), globals := 0, closure := [], defaults := Value.none, kwdefaults := Value.none } }
noncomputable def headO106 (P : Params) : Obj := { cls := Value.type "code", data := Data.fields #[Value.str (Str.ofString "lot_at") 334, Value.str (Str.ofString "lot_at") 335, Value.str (Str.ofString "/claim/cut.py") 336, Value.int 87 0, Value.int 2 0, Value.int 0 0, Value.int 0 0, Value.int 3 0, Value.ref 105, Value.bool true, Value.int 181 0, Value.ref 106, Value.none, Value.ref 107, Value.ref 108, Value.ref 109, Value.int 342 0, Value.int 87 0, Value.str (Str.ofString "/claim/cut.py") 343] }
noncomputable def headO107 (P : Params) : Obj := { cls := Value.type "function", data := Data.func { name := Str.ofString "lot_at", qualname := Str.ofString "lot_at", params := headArgs (headSt 14), body := FuncBody.stmts (headBody (headSt 14)), scope := headScope (headSt 14), globals := 3, closure := [], defaults := Value.none, kwdefaults := Value.none, pyModule := Value.str (Str.ofString "pagebase.text_match") 245, code := Value.ref 110 } }
noncomputable def headO108 (P : Params) : Obj := { cls := Value.type "tuple", data := Data.seq #[] }
noncomputable def headO109 (P : Params) : Obj := { cls := Value.none, data := Data.fields #[] }
noncomputable def headO110 (P : Params) : Obj := { cls := Value.type "tuple", data := Data.seq #[Value.str (Str.ofString "pattern") 348, Value.str (Str.ofString "parts") 349, Value.str (Str.ofString "at") 350, Value.str (Str.ofString "sign") 351, Value.str (Str.ofString "lot") 352] }
noncomputable def headO111 (P : Params) : Obj := { cls := Value.type "tuple", data := Data.seq #[] }
noncomputable def headO112 (P : Params) : Obj := { cls := Value.none, data := Data.func { name := Str.ofString "glob_parts", qualname := Str.ofString "glob_parts", params := headArgs (headSt 15), body := FuncBody.stmts (headBody (headSt 15)), scope := headScope (headSt 15), globals := 0, closure := [], defaults := Value.none, kwdefaults := Value.none } }
noncomputable def headO113 (P : Params) : Obj := { cls := Value.type "code", data := Data.fields #[Value.str (Str.ofString "glob_parts") 345, Value.str (Str.ofString "glob_parts") 346, Value.str (Str.ofString "/claim/cut.py") 347, Value.int 107 0, Value.int 1 0, Value.int 0 0, Value.int 0 0, Value.int 3 0, Value.ref 112, Value.bool true, Value.int 181 0, Value.ref 113, Value.none, Value.ref 114, Value.ref 115, Value.ref 116, Value.int 353 0, Value.int 107 0, Value.str (Str.ofString "/claim/cut.py") 354] }
noncomputable def headO114 (P : Params) : Obj := { cls := Value.type "function", data := Data.func { name := Str.ofString "glob_parts", qualname := Str.ofString "glob_parts", params := headArgs (headSt 15), body := FuncBody.stmts (headBody (headSt 15)), scope := headScope (headSt 15), globals := 3, closure := [], defaults := Value.none, kwdefaults := Value.none, pyModule := Value.str (Str.ofString "pagebase.text_match") 245, code := Value.ref 117 } }
noncomputable def headO115 (P : Params) : Obj := { cls := Value.type "tuple", data := Data.seq #[] }
noncomputable def headO116 (P : Params) : Obj := { cls := Value.none, data := Data.fields #[] }
noncomputable def headO117 (P : Params) : Obj := { cls := Value.type "tuple", data := Data.seq #[Value.str (Str.ofString "pattern") 359, Value.str (Str.ofString "text") 360, Value.str (Str.ofString "parts") 361] }
noncomputable def headO118 (P : Params) : Obj := { cls := Value.type "tuple", data := Data.seq #[] }
noncomputable def headO119 (P : Params) : Obj := { cls := Value.none, data := Data.func { name := Str.ofString "glob", qualname := Str.ofString "glob", params := headArgs (headSt 16), body := FuncBody.stmts (headBody (headSt 16)), scope := headScope (headSt 16), globals := 0, closure := [], defaults := Value.none, kwdefaults := Value.none } }
noncomputable def headO120 (P : Params) : Obj := { cls := Value.type "code", data := Data.fields #[Value.str (Str.ofString "glob") 356, Value.str (Str.ofString "glob") 357, Value.str (Str.ofString "/claim/cut.py") 358, Value.int 126 0, Value.int 2 0, Value.int 0 0, Value.int 0 0, Value.int 3 0, Value.ref 119, Value.bool true, Value.int 181 0, Value.ref 120, Value.none, Value.ref 121, Value.ref 122, Value.ref 123, Value.int 362 0, Value.int 126 0, Value.str (Str.ofString "/claim/cut.py") 363] }
noncomputable def headO121 (P : Params) : Obj := { cls := Value.type "function", data := Data.func { name := Str.ofString "glob", qualname := Str.ofString "glob", params := headArgs (headSt 16), body := FuncBody.stmts (headBody (headSt 16)), scope := headScope (headSt 16), globals := 3, closure := [], defaults := Value.none, kwdefaults := Value.none, pyModule := Value.str (Str.ofString "pagebase.text_match") 245, code := Value.ref 124 } }
noncomputable def headO122 (P : Params) : Obj := { cls := Value.type "tuple", data := Data.seq #[] }
noncomputable def headO123 (P : Params) : Obj := { cls := Value.none, data := Data.fields #[] }
noncomputable def headO124 (P : Params) : Obj := { cls := Value.type "tuple", data := Data.seq #[Value.str (Str.ofString "script") 370, Value.str (Str.ofString "k") 371, Value.str (Str.ofString "cell") 372, Value.str (Str.ofString "big") 373, Value.str (Str.ofString "mixed") 374] }
noncomputable def headO125 (P : Params) : Obj := { cls := Value.type "tuple", data := Data.seq #[] }
noncomputable def headO126 (P : Params) : Obj := { cls := Value.none, data := Data.func { name := Str.ofString "_law_pool", qualname := Str.ofString "_law_pool", params := headArgs (headSt 18), body := FuncBody.stmts (headBody (headSt 18)), scope := headScope (headSt 18), globals := 0, closure := [], defaults := Value.none, kwdefaults := Value.none } }
noncomputable def headO127 (P : Params) : Obj := { cls := Value.type "code", data := Data.fields #[Value.str (Str.ofString "_law_pool") 367, Value.str (Str.ofString "_law_pool") 368, Value.str (Str.ofString "/claim/cut.py") 369, Value.int 132 0, Value.int 2 0, Value.int 0 0, Value.int 0 0, Value.int 3 0, Value.ref 126, Value.bool true, Value.int 181 0, Value.ref 127, Value.none, Value.ref 128, Value.ref 129, Value.ref 130, Value.int 375 0, Value.int 132 0, Value.str (Str.ofString "/claim/cut.py") 376] }
noncomputable def headO128 (P : Params) : Obj := { cls := Value.type "function", data := Data.func { name := Str.ofString "_law_pool", qualname := Str.ofString "_law_pool", params := headArgs (headSt 18), body := FuncBody.stmts (headBody (headSt 18)), scope := headScope (headSt 18), globals := 3, closure := [], defaults := Value.none, kwdefaults := Value.none, pyModule := Value.str (Str.ofString "law_nt0095_01") 365, code := Value.ref 131 } }
noncomputable def headO129 (P : Params) : Obj := { cls := Value.type "tuple", data := Data.seq #[] }
noncomputable def headO130 (P : Params) : Obj := { cls := Value.none, data := Data.fields #[] }
noncomputable def headO131 (P : Params) : Obj := { cls := Value.type "tuple", data := Data.seq #[Value.str (Str.ofString "source") 381, Value.str (Str.ofString "top") 382, Value.str (Str.ofString "drawn") 383] }
noncomputable def headO132 (P : Params) : Obj := { cls := Value.type "tuple", data := Data.seq #[] }
noncomputable def headO133 (P : Params) : Obj := { cls := Value.none, data := Data.func { name := Str.ofString "_law_take", qualname := Str.ofString "_law_take", params := headArgs (headSt 19), body := FuncBody.stmts (headBody (headSt 19)), scope := headScope (headSt 19), globals := 0, closure := [], defaults := Value.none, kwdefaults := Value.none } }
noncomputable def headO134 (P : Params) : Obj := { cls := Value.type "code", data := Data.fields #[Value.str (Str.ofString "_law_take") 378, Value.str (Str.ofString "_law_take") 379, Value.str (Str.ofString "/claim/cut.py") 380, Value.int 139 0, Value.int 2 0, Value.int 0 0, Value.int 0 0, Value.int 3 0, Value.ref 133, Value.bool true, Value.int 181 0, Value.ref 134, Value.none, Value.ref 135, Value.ref 136, Value.ref 137, Value.int 384 0, Value.int 139 0, Value.str (Str.ofString "/claim/cut.py") 385] }
noncomputable def headO135 (P : Params) : Obj := { cls := Value.type "function", data := Data.func { name := Str.ofString "_law_take", qualname := Str.ofString "_law_take", params := headArgs (headSt 19), body := FuncBody.stmts (headBody (headSt 19)), scope := headScope (headSt 19), globals := 3, closure := [], defaults := Value.none, kwdefaults := Value.none, pyModule := Value.str (Str.ofString "law_nt0095_01") 365, code := Value.ref 138 } }
noncomputable def headO136 (P : Params) : Obj := { cls := Value.type "tuple", data := Data.seq #[] }
noncomputable def headO137 (P : Params) : Obj := { cls := Value.none, data := Data.fields #[] }
noncomputable def headO138 (P : Params) : Obj := { cls := Value.type "tuple", data := Data.seq #[Value.str (Str.ofString "source") 390, Value.str (Str.ofString "things") 391] }
noncomputable def headO139 (P : Params) : Obj := { cls := Value.type "tuple", data := Data.seq #[] }
noncomputable def headO140 (P : Params) : Obj := { cls := Value.none, data := Data.func { name := Str.ofString "_law_one", qualname := Str.ofString "_law_one", params := headArgs (headSt 20), body := FuncBody.stmts (headBody (headSt 20)), scope := headScope (headSt 20), globals := 0, closure := [], defaults := Value.none, kwdefaults := Value.none } }
noncomputable def headO141 (P : Params) : Obj := { cls := Value.type "code", data := Data.fields #[Value.str (Str.ofString "_law_one") 387, Value.str (Str.ofString "_law_one") 388, Value.str (Str.ofString "/claim/cut.py") 389, Value.int 146 0, Value.int 2 0, Value.int 0 0, Value.int 0 0, Value.int 3 0, Value.ref 140, Value.bool true, Value.int 181 0, Value.ref 141, Value.none, Value.ref 142, Value.ref 143, Value.ref 144, Value.int 392 0, Value.int 146 0, Value.str (Str.ofString "/claim/cut.py") 393] }
noncomputable def headO142 (P : Params) : Obj := { cls := Value.type "function", data := Data.func { name := Str.ofString "_law_one", qualname := Str.ofString "_law_one", params := headArgs (headSt 20), body := FuncBody.stmts (headBody (headSt 20)), scope := headScope (headSt 20), globals := 3, closure := [], defaults := Value.none, kwdefaults := Value.none, pyModule := Value.str (Str.ofString "law_nt0095_01") 365, code := Value.ref 145 } }
noncomputable def headO143 (P : Params) : Obj := { cls := Value.type "dict", data := Data.dict #[{ hash := PyData.keyHash P (Str.ofString "__name__"), key := Value.str (Str.ofString "__name__") 165, val := Value.str (Str.ofString "law_nt0095_01") 365 }, { hash := PyData.keyHash P (Str.ofString "__doc__"), key := Value.str (Str.ofString "__doc__") 166, val := Value.none }, { hash := PyData.keyHash P (Str.ofString "__package__"), key := Value.str (Str.ofString "__package__") 167, val := Value.none }, { hash := PyData.keyHash P (Str.ofString "__loader__"), key := Value.str (Str.ofString "__loader__") 168, val := Value.builtin "__main__.__loader__#opaque" }, { hash := PyData.keyHash P (Str.ofString "__spec__"), key := Value.str (Str.ofString "__spec__") 169, val := Value.none }, { hash := PyData.keyHash P (Str.ofString "__annotations__"), key := Value.str (Str.ofString "__annotations__") 170, val := Value.ref 6 }, { hash := PyData.keyHash P (Str.ofString "__builtins__"), key := Value.str (Str.ofString "__builtins__") 171, val := Value.ref 4 }, { hash := PyData.keyHash P (Str.ofString "__file__"), key := Value.str (Str.ofString "__file__") 173, val := Value.str (Str.ofString "/claim/cut.py") 172 }, { hash := PyData.keyHash P (Str.ofString "__cached__"), key := Value.str (Str.ofString "__cached__") 174, val := Value.none }, { hash := PyData.keyHash P (Str.ofString "PagebaseError"), key := Value.str (Str.ofString "PagebaseError") 217, val := Value.ref 31 }, { hash := PyData.keyHash P (Str.ofString "SqlError"), key := Value.str (Str.ofString "SqlError") 233, val := Value.ref 44 }, { hash := PyData.keyHash P (Str.ofString "fold_ascii"), key := Value.str (Str.ofString "fold_ascii") 244, val := Value.ref 53 }, { hash := PyData.keyHash P (Str.ofString "ANY"), key := Value.str (Str.ofString "ANY") 248, val := Value.int 0 247 }, { hash := PyData.keyHash P (Str.ofString "ONE"), key := Value.str (Str.ofString "ONE") 250, val := Value.int 1 249 }, { hash := PyData.keyHash P (Str.ofString "SIGN"), key := Value.str (Str.ofString "SIGN") 252, val := Value.int 2 251 }, { hash := PyData.keyHash P (Str.ofString "LOT"), key := Value.str (Str.ofString "LOT") 254, val := Value.int 3 253 }, { hash := PyData.keyHash P (Str.ofString "Part"), key := Value.str (Str.ofString "Part") 300, val := Value.ref 78 }, { hash := PyData.keyHash P (Str.ofString "matches"), key := Value.str (Str.ofString "matches") 312, val := Value.ref 89 }, { hash := PyData.keyHash P (Str.ofString "like_parts"), key := Value.str (Str.ofString "like_parts") 323, val := Value.ref 96 }, { hash := PyData.keyHash P (Str.ofString "like"), key := Value.str (Str.ofString "like") 333, val := Value.ref 104 }, { hash := PyData.keyHash P (Str.ofString "lot_at"), key := Value.str (Str.ofString "lot_at") 344, val := Value.ref 111 }, { hash := PyData.keyHash P (Str.ofString "glob_parts"), key := Value.str (Str.ofString "glob_parts") 355, val := Value.ref 118 }, { hash := PyData.keyHash P (Str.ofString "glob"), key := Value.str (Str.ofString "glob") 364, val := Value.ref 125 }, { hash := PyData.keyHash P (Str.ofString "_law_pool"), key := Value.str (Str.ofString "_law_pool") 377, val := Value.ref 132 }, { hash := PyData.keyHash P (Str.ofString "_law_take"), key := Value.str (Str.ofString "_law_take") 386, val := Value.ref 139 }, { hash := PyData.keyHash P (Str.ofString "_law_one"), key := Value.str (Str.ofString "_law_one") 394, val := Value.ref 146 }, { hash := PyData.keyHash P (Str.ofString "_law_text"), key := Value.str (Str.ofString "_law_text") 400, val := Value.ref 151 }, { hash := PyData.keyHash P (Str.ofString "_law_like_pattern"), key := Value.str (Str.ofString "_law_like_pattern") 411, val := Value.ref 158 }, { hash := PyData.keyHash P (Str.ofString "_law_glob_pattern"), key := Value.str (Str.ofString "_law_glob_pattern") 423, val := Value.ref 165 }, { hash := PyData.keyHash P (Str.ofString "_law_fold"), key := Value.str (Str.ofString "_law_fold") 430, val := Value.ref 172 }, { hash := PyData.keyHash P (Str.ofString "_law_like_parts"), key := Value.str (Str.ofString "_law_like_parts") 441, val := Value.ref 179 }, { hash := PyData.keyHash P (Str.ofString "_law_lot"), key := Value.str (Str.ofString "_law_lot") 447, val := Value.ref 184 }, { hash := PyData.keyHash P (Str.ofString "_law_glob_parts"), key := Value.str (Str.ofString "_law_glob_parts") 459, val := Value.ref 191 }, { hash := PyData.keyHash P (Str.ofString "_law_fits"), key := Value.str (Str.ofString "_law_fits") 471, val := Value.ref 198 }, { hash := PyData.keyHash P (Str.ofString "_law_escapes_right"), key := Value.str (Str.ofString "_law_escapes_right") 479, val := Value.ref 205 }, { hash := PyData.keyHash P (Str.ofString "law"), key := Value.str (Str.ofString "law") 485, val := Value.ref 210 }] 36 }
noncomputable def headO144 (P : Params) : Obj := { cls := Value.none, data := Data.fields #[Value.int 2 0, Value.int 0 0, Value.ref 20, Value.int 6 0, Value.int 0 0, Value.ref 40, Value.int 9 0, Value.int 0 0, Value.ref 52, Value.int 22 0, Value.int 0 0, Value.ref 59, Value.int 40 0, Value.int 0 0, Value.ref 88, Value.int 62 0, Value.int 0 0, Value.ref 95, Value.int 80 0, Value.int 0 0, Value.ref 103, Value.int 87 0, Value.int 0 0, Value.ref 110, Value.int 107 0, Value.int 0 0, Value.ref 117, Value.int 126 0, Value.int 0 0, Value.ref 124, Value.int 132 0, Value.int 0 0, Value.ref 131, Value.int 139 0, Value.int 0 0, Value.ref 138, Value.int 146 0, Value.int 0 0, Value.ref 145, Value.int 148 0, Value.int 0 0, Value.ref 150, Value.int 151 0, Value.int 0 0, Value.ref 157, Value.int 157 0, Value.int 0 0, Value.ref 164, Value.int 164 0, Value.int 0 0, Value.ref 171, Value.int 166 0, Value.int 0 0, Value.ref 178, Value.int 179 0, Value.int 0 0, Value.ref 183, Value.int 193 0, Value.int 0 0, Value.ref 190, Value.int 208 0, Value.int 0 0, Value.ref 197, Value.int 221 0, Value.int 0 0, Value.ref 204, Value.int 229 0, Value.int 0 0, Value.ref 209] }
noncomputable def headO145 (P : Params) : Obj := { cls := Value.type "tuple", data := Data.seq #[] }
noncomputable def headO146 (P : Params) : Obj := { cls := Value.none, data := Data.fields #[] }
noncomputable def headO147 (P : Params) : Obj := { cls := Value.none, data := Data.func { name := Str.ofString "_law_text", qualname := Str.ofString "_law_text", params := headArgs (headSt 21), body := FuncBody.stmts (headBody (headSt 21)), scope := headScope (headSt 21), globals := 0, closure := [], defaults := Value.none, kwdefaults := Value.none } }
noncomputable def headO148 (P : Params) : Obj := { cls := Value.type "code", data := Data.fields #[Value.str (Str.ofString "_law_text") 395, Value.str (Str.ofString "_law_text") 396, Value.str (Str.ofString "/claim/cut.py") 397, Value.int 148 0, Value.int 1 0, Value.int 0 0, Value.int 0 0, Value.int 3 0, Value.ref 147, Value.bool true, Value.int 181 0, Value.ref 148, Value.none, Value.none, Value.none, Value.ref 149, Value.int 398 0, Value.int 148 0, Value.str (Str.ofString "/claim/cut.py") 399] }
noncomputable def headO149 (P : Params) : Obj := { cls := Value.type "function", data := Data.func { name := Str.ofString "_law_text", qualname := Str.ofString "_law_text", params := headArgs (headSt 21), body := FuncBody.stmts (headBody (headSt 21)), scope := headScope (headSt 21), globals := 3, closure := [], defaults := Value.none, kwdefaults := Value.none, pyModule := Value.str (Str.ofString "law_nt0095_01") 365, code := Value.ref 150 } }
noncomputable def headO150 (P : Params) : Obj := { cls := Value.type "tuple", data := Data.seq #[] }
noncomputable def headO151 (P : Params) : Obj := { cls := Value.none, data := Data.fields #[] }
noncomputable def headO152 (P : Params) : Obj := { cls := Value.type "tuple", data := Data.seq #[Value.str (Str.ofString "source") 404, Value.str (Str.ofString "text") 405, Value.str (Str.ofString "found") 406, Value.str (Str.ofString "sign") 407, Value.str (Str.ofString "way") 408] }
noncomputable def headO153 (P : Params) : Obj := { cls := Value.type "tuple", data := Data.seq #[] }
noncomputable def headO154 (P : Params) : Obj := { cls := Value.none, data := Data.func { name := Str.ofString "_law_like_pattern", qualname := Str.ofString "_law_like_pattern", params := headArgs (headSt 22), body := FuncBody.stmts (headBody (headSt 22)), scope := headScope (headSt 22), globals := 0, closure := [], defaults := Value.none, kwdefaults := Value.none } }
noncomputable def headO155 (P : Params) : Obj := { cls := Value.type "code", data := Data.fields #[Value.str (Str.ofString "_law_like_pattern") 401, Value.str (Str.ofString "_law_like_pattern") 402, Value.str (Str.ofString "/claim/cut.py") 403, Value.int 151 0, Value.int 2 0, Value.int 0 0, Value.int 0 0, Value.int 3 0, Value.ref 152, Value.bool true, Value.int 181 0, Value.ref 153, Value.none, Value.ref 154, Value.ref 155, Value.ref 156, Value.int 409 0, Value.int 151 0, Value.str (Str.ofString "/claim/cut.py") 410] }
noncomputable def headO156 (P : Params) : Obj := { cls := Value.type "function", data := Data.func { name := Str.ofString "_law_like_pattern", qualname := Str.ofString "_law_like_pattern", params := headArgs (headSt 22), body := FuncBody.stmts (headBody (headSt 22)), scope := headScope (headSt 22), globals := 3, closure := [], defaults := Value.none, kwdefaults := Value.none, pyModule := Value.str (Str.ofString "law_nt0095_01") 365, code := Value.ref 157 } }
noncomputable def headO157 (P : Params) : Obj := { cls := Value.type "tuple", data := Data.seq #[] }
noncomputable def headO158 (P : Params) : Obj := { cls := Value.none, data := Data.fields #[] }
noncomputable def headO159 (P : Params) : Obj := { cls := Value.type "tuple", data := Data.seq #[Value.str (Str.ofString "source") 415, Value.str (Str.ofString "text") 416, Value.str (Str.ofString "found") 417, Value.str (Str.ofString "sign") 418, Value.str (Str.ofString "way") 419, Value.str (Str.ofString "lot") 420] }
noncomputable def headO160 (P : Params) : Obj := { cls := Value.type "tuple", data := Data.seq #[] }
noncomputable def headO161 (P : Params) : Obj := { cls := Value.none, data := Data.func { name := Str.ofString "_law_glob_pattern", qualname := Str.ofString "_law_glob_pattern", params := headArgs (headSt 23), body := FuncBody.stmts (headBody (headSt 23)), scope := headScope (headSt 23), globals := 0, closure := [], defaults := Value.none, kwdefaults := Value.none } }
noncomputable def headO162 (P : Params) : Obj := { cls := Value.type "code", data := Data.fields #[Value.str (Str.ofString "_law_glob_pattern") 412, Value.str (Str.ofString "_law_glob_pattern") 413, Value.str (Str.ofString "/claim/cut.py") 414, Value.int 157 0, Value.int 2 0, Value.int 0 0, Value.int 0 0, Value.int 3 0, Value.ref 159, Value.bool true, Value.int 181 0, Value.ref 160, Value.none, Value.ref 161, Value.ref 162, Value.ref 163, Value.int 421 0, Value.int 157 0, Value.str (Str.ofString "/claim/cut.py") 422] }
noncomputable def headO163 (P : Params) : Obj := { cls := Value.type "function", data := Data.func { name := Str.ofString "_law_glob_pattern", qualname := Str.ofString "_law_glob_pattern", params := headArgs (headSt 23), body := FuncBody.stmts (headBody (headSt 23)), scope := headScope (headSt 23), globals := 3, closure := [], defaults := Value.none, kwdefaults := Value.none, pyModule := Value.str (Str.ofString "law_nt0095_01") 365, code := Value.ref 164 } }
noncomputable def headO164 (P : Params) : Obj := { cls := Value.type "tuple", data := Data.seq #[] }
noncomputable def headO165 (P : Params) : Obj := { cls := Value.none, data := Data.fields #[] }
noncomputable def headO166 (P : Params) : Obj := { cls := Value.type "tuple", data := Data.seq #[Value.str (Str.ofString "sign") 427] }
noncomputable def headO167 (P : Params) : Obj := { cls := Value.type "tuple", data := Data.seq #[] }
noncomputable def headO168 (P : Params) : Obj := { cls := Value.none, data := Data.func { name := Str.ofString "_law_fold", qualname := Str.ofString "_law_fold", params := headArgs (headSt 24), body := FuncBody.stmts (headBody (headSt 24)), scope := headScope (headSt 24), globals := 0, closure := [], defaults := Value.none, kwdefaults := Value.none } }
noncomputable def headO169 (P : Params) : Obj := { cls := Value.type "code", data := Data.fields #[Value.str (Str.ofString "_law_fold") 424, Value.str (Str.ofString "_law_fold") 425, Value.str (Str.ofString "/claim/cut.py") 426, Value.int 164 0, Value.int 1 0, Value.int 0 0, Value.int 0 0, Value.int 3 0, Value.ref 166, Value.bool true, Value.int 181 0, Value.ref 167, Value.none, Value.ref 168, Value.ref 169, Value.ref 170, Value.int 428 0, Value.int 164 0, Value.str (Str.ofString "/claim/cut.py") 429] }
noncomputable def headO170 (P : Params) : Obj := { cls := Value.type "function", data := Data.func { name := Str.ofString "_law_fold", qualname := Str.ofString "_law_fold", params := headArgs (headSt 24), body := FuncBody.stmts (headBody (headSt 24)), scope := headScope (headSt 24), globals := 3, closure := [], defaults := Value.none, kwdefaults := Value.none, pyModule := Value.str (Str.ofString "law_nt0095_01") 365, code := Value.ref 171 } }
noncomputable def headO171 (P : Params) : Obj := { cls := Value.type "tuple", data := Data.seq #[] }
noncomputable def headO172 (P : Params) : Obj := { cls := Value.none, data := Data.fields #[] }
noncomputable def headO173 (P : Params) : Obj := { cls := Value.type "tuple", data := Data.seq #[Value.str (Str.ofString "pattern") 434, Value.str (Str.ofString "escape") 435, Value.str (Str.ofString "found") 436, Value.str (Str.ofString "at") 437, Value.str (Str.ofString "sign") 438] }
noncomputable def headO174 (P : Params) : Obj := { cls := Value.type "tuple", data := Data.seq #[] }
noncomputable def headO175 (P : Params) : Obj := { cls := Value.none, data := Data.func { name := Str.ofString "_law_like_parts", qualname := Str.ofString "_law_like_parts", params := headArgs (headSt 25), body := FuncBody.stmts (headBody (headSt 25)), scope := headScope (headSt 25), globals := 0, closure := [], defaults := Value.none, kwdefaults := Value.none } }
noncomputable def headO176 (P : Params) : Obj := { cls := Value.type "code", data := Data.fields #[Value.str (Str.ofString "_law_like_parts") 431, Value.str (Str.ofString "_law_like_parts") 432, Value.str (Str.ofString "/claim/cut.py") 433, Value.int 166 0, Value.int 2 0, Value.int 0 0, Value.int 0 0, Value.int 3 0, Value.ref 173, Value.bool true, Value.int 181 0, Value.ref 174, Value.none, Value.ref 175, Value.ref 176, Value.ref 177, Value.int 439 0, Value.int 166 0, Value.str (Str.ofString "/claim/cut.py") 440] }
noncomputable def headO177 (P : Params) : Obj := { cls := Value.type "function", data := Data.func { name := Str.ofString "_law_like_parts", qualname := Str.ofString "_law_like_parts", params := headArgs (headSt 25), body := FuncBody.stmts (headBody (headSt 25)), scope := headScope (headSt 25), globals := 3, closure := [], defaults := Value.none, kwdefaults := Value.none, pyModule := Value.str (Str.ofString "law_nt0095_01") 365, code := Value.ref 178 } }
noncomputable def headO178 (P : Params) : Obj := { cls := Value.type "tuple", data := Data.seq #[] }
noncomputable def headO179 (P : Params) : Obj := { cls := Value.none, data := Data.fields #[] }
noncomputable def headO180 (P : Params) : Obj := { cls := Value.none, data := Data.func { name := Str.ofString "_law_lot", qualname := Str.ofString "_law_lot", params := headArgs (headSt 26), body := FuncBody.stmts (headBody (headSt 26)), scope := headScope (headSt 26), globals := 0, closure := [], defaults := Value.none, kwdefaults := Value.none } }
noncomputable def headO181 (P : Params) : Obj := { cls := Value.type "code", data := Data.fields #[Value.str (Str.ofString "_law_lot") 442, Value.str (Str.ofString "_law_lot") 443, Value.str (Str.ofString "/claim/cut.py") 444, Value.int 179 0, Value.int 1 0, Value.int 0 0, Value.int 0 0, Value.int 3 0, Value.ref 180, Value.bool true, Value.int 181 0, Value.ref 181, Value.none, Value.none, Value.none, Value.ref 182, Value.int 445 0, Value.int 179 0, Value.str (Str.ofString "/claim/cut.py") 446] }
noncomputable def headO182 (P : Params) : Obj := { cls := Value.type "function", data := Data.func { name := Str.ofString "_law_lot", qualname := Str.ofString "_law_lot", params := headArgs (headSt 26), body := FuncBody.stmts (headBody (headSt 26)), scope := headScope (headSt 26), globals := 3, closure := [], defaults := Value.none, kwdefaults := Value.none, pyModule := Value.str (Str.ofString "law_nt0095_01") 365, code := Value.ref 183 } }
noncomputable def headO183 (P : Params) : Obj := { cls := Value.type "tuple", data := Data.seq #[] }
noncomputable def headO184 (P : Params) : Obj := { cls := Value.none, data := Data.fields #[] }
noncomputable def headO185 (P : Params) : Obj := { cls := Value.type "tuple", data := Data.seq #[Value.str (Str.ofString "pattern") 451, Value.str (Str.ofString "found") 452, Value.str (Str.ofString "at") 453, Value.str (Str.ofString "first") 454, Value.str (Str.ofString "end") 455, Value.str (Str.ofString "sign") 456] }
noncomputable def headO186 (P : Params) : Obj := { cls := Value.type "tuple", data := Data.seq #[] }
noncomputable def headO187 (P : Params) : Obj := { cls := Value.none, data := Data.func { name := Str.ofString "_law_glob_parts", qualname := Str.ofString "_law_glob_parts", params := headArgs (headSt 27), body := FuncBody.stmts (headBody (headSt 27)), scope := headScope (headSt 27), globals := 0, closure := [], defaults := Value.none, kwdefaults := Value.none } }
noncomputable def headO188 (P : Params) : Obj := { cls := Value.type "code", data := Data.fields #[Value.str (Str.ofString "_law_glob_parts") 448, Value.str (Str.ofString "_law_glob_parts") 449, Value.str (Str.ofString "/claim/cut.py") 450, Value.int 193 0, Value.int 1 0, Value.int 0 0, Value.int 0 0, Value.int 3 0, Value.ref 185, Value.bool true, Value.int 181 0, Value.ref 186, Value.none, Value.ref 187, Value.ref 188, Value.ref 189, Value.int 457 0, Value.int 193 0, Value.str (Str.ofString "/claim/cut.py") 458] }
noncomputable def headO189 (P : Params) : Obj := { cls := Value.type "function", data := Data.func { name := Str.ofString "_law_glob_parts", qualname := Str.ofString "_law_glob_parts", params := headArgs (headSt 27), body := FuncBody.stmts (headBody (headSt 27)), scope := headScope (headSt 27), globals := 3, closure := [], defaults := Value.none, kwdefaults := Value.none, pyModule := Value.str (Str.ofString "law_nt0095_01") 365, code := Value.ref 190 } }
noncomputable def headO190 (P : Params) : Obj := { cls := Value.type "tuple", data := Data.seq #[] }
noncomputable def headO191 (P : Params) : Obj := { cls := Value.none, data := Data.fields #[] }
noncomputable def headO192 (P : Params) : Obj := { cls := Value.type "tuple", data := Data.seq #[Value.str (Str.ofString "parts") 463, Value.str (Str.ofString "text") 464, Value.str (Str.ofString "row") 465, Value.str (Str.ofString "part") 466, Value.str (Str.ofString "later") 467, Value.str (Str.ofString "at") 468] }
noncomputable def headO193 (P : Params) : Obj := { cls := Value.type "tuple", data := Data.seq #[] }
noncomputable def headO194 (P : Params) : Obj := { cls := Value.none, data := Data.func { name := Str.ofString "_law_fits", qualname := Str.ofString "_law_fits", params := headArgs (headSt 28), body := FuncBody.stmts (headBody (headSt 28)), scope := headScope (headSt 28), globals := 0, closure := [], defaults := Value.none, kwdefaults := Value.none } }
noncomputable def headO195 (P : Params) : Obj := { cls := Value.type "code", data := Data.fields #[Value.str (Str.ofString "_law_fits") 460, Value.str (Str.ofString "_law_fits") 461, Value.str (Str.ofString "/claim/cut.py") 462, Value.int 208 0, Value.int 2 0, Value.int 0 0, Value.int 0 0, Value.int 3 0, Value.ref 192, Value.bool true, Value.int 181 0, Value.ref 193, Value.none, Value.ref 194, Value.ref 195, Value.ref 196, Value.int 469 0, Value.int 208 0, Value.str (Str.ofString "/claim/cut.py") 470] }
noncomputable def headO196 (P : Params) : Obj := { cls := Value.type "function", data := Data.func { name := Str.ofString "_law_fits", qualname := Str.ofString "_law_fits", params := headArgs (headSt 28), body := FuncBody.stmts (headBody (headSt 28)), scope := headScope (headSt 28), globals := 3, closure := [], defaults := Value.none, kwdefaults := Value.none, pyModule := Value.str (Str.ofString "law_nt0095_01") 365, code := Value.ref 197 } }
noncomputable def headO197 (P : Params) : Obj := { cls := Value.type "tuple", data := Data.seq #[] }
noncomputable def headO198 (P : Params) : Obj := { cls := Value.none, data := Data.fields #[] }
noncomputable def headO199 (P : Params) : Obj := { cls := Value.type "tuple", data := Data.seq #[Value.str (Str.ofString "text") 475, Value.str (Str.ofString "odd") 476] }
noncomputable def headO200 (P : Params) : Obj := { cls := Value.type "tuple", data := Data.seq #[] }
noncomputable def headO201 (P : Params) : Obj := { cls := Value.none, data := Data.func { name := Str.ofString "_law_escapes_right", qualname := Str.ofString "_law_escapes_right", params := headArgs (headSt 29), body := FuncBody.stmts (headBody (headSt 29)), scope := headScope (headSt 29), globals := 0, closure := [], defaults := Value.none, kwdefaults := Value.none } }
noncomputable def headO202 (P : Params) : Obj := { cls := Value.type "code", data := Data.fields #[Value.str (Str.ofString "_law_escapes_right") 472, Value.str (Str.ofString "_law_escapes_right") 473, Value.str (Str.ofString "/claim/cut.py") 474, Value.int 221 0, Value.int 1 0, Value.int 0 0, Value.int 0 0, Value.int 3 0, Value.ref 199, Value.bool true, Value.int 181 0, Value.ref 200, Value.none, Value.ref 201, Value.ref 202, Value.ref 203, Value.int 477 0, Value.int 221 0, Value.str (Str.ofString "/claim/cut.py") 478] }
noncomputable def headO203 (P : Params) : Obj := { cls := Value.type "function", data := Data.func { name := Str.ofString "_law_escapes_right", qualname := Str.ofString "_law_escapes_right", params := headArgs (headSt 29), body := FuncBody.stmts (headBody (headSt 29)), scope := headScope (headSt 29), globals := 3, closure := [], defaults := Value.none, kwdefaults := Value.none, pyModule := Value.str (Str.ofString "law_nt0095_01") 365, code := Value.ref 204 } }
noncomputable def headO204 (P : Params) : Obj := { cls := Value.type "tuple", data := Data.seq #[] }
noncomputable def headO205 (P : Params) : Obj := { cls := Value.none, data := Data.fields #[] }
noncomputable def headO206 (P : Params) : Obj := { cls := Value.none, data := Data.func { name := Str.ofString "law", qualname := Str.ofString "law", params := headArgs (headSt 30), body := FuncBody.stmts (headBody (headSt 30)), scope := headScope (headSt 30), globals := 0, closure := [], defaults := Value.none, kwdefaults := Value.none } }
noncomputable def headO207 (P : Params) : Obj := { cls := Value.type "code", data := Data.fields #[Value.str (Str.ofString "law") 480, Value.str (Str.ofString "law") 481, Value.str (Str.ofString "/claim/cut.py") 482, Value.int 229 0, Value.int 1 0, Value.int 0 0, Value.int 0 0, Value.int 3 0, Value.ref 206, Value.bool true, Value.int 181 0, Value.ref 207, Value.none, Value.none, Value.none, Value.ref 208, Value.int 483 0, Value.int 229 0, Value.str (Str.ofString "/claim/cut.py") 484] }
noncomputable def headO208 (P : Params) : Obj := { cls := Value.type "function", data := Data.func { name := Str.ofString "law", qualname := Str.ofString "law", params := headArgs (headSt 30), body := FuncBody.stmts (headBody (headSt 30)), scope := headScope (headSt 30), globals := 3, closure := [], defaults := Value.none, kwdefaults := Value.none, pyModule := Value.str (Str.ofString "law_nt0095_01") 365, code := Value.ref 209 } }
noncomputable def headT_pre (P : Params) : BT := (.node (boot_o_0 P) (.node (boot_o_1 P) (.node (boot_o_3 P) (.node (boot_o_7 P) .nil .nil) (.node (headO0 P) .nil .nil)) (.node (boot_o_5 P) (.node (boot_o_9 P) .nil .nil) (.node (headO2 P) .nil .nil))) (.node (boot_o_2 P) (.node (boot_o_4 P) (.node (boot_o_8 P) .nil .nil) (.node (headO1 P) .nil .nil)) (.node (boot_o_6 P) (.node (boot_o_10 P) .nil .nil) (.node (headO3 P) .nil .nil))))
noncomputable def headS_pre (w : World) (os : OsState) : SharedT := ⟨headT_pre w.params, 15, {}, #[], {}, 187, os⟩
noncomputable def headT_s9 (P : Params) : BT := (.node (boot_o_0 P) (.node (boot_o_1 P) (.node (headO5 P) (.node (boot_o_7 P) (.node (headO7 P) (.node (headO23 P) .nil .nil) (.node (headO39 P) .nil .nil)) (.node (headO15 P) (.node (headO31 P) .nil .nil) .nil)) (.node (headO0 P) (.node (headO11 P) (.node (headO27 P) .nil .nil) (.node (headO43 P) .nil .nil)) (.node (headO19 P) (.node (headO35 P) .nil .nil) .nil))) (.node (boot_o_5 P) (.node (boot_o_9 P) (.node (headO9 P) (.node (headO25 P) .nil .nil) (.node (headO41 P) .nil .nil)) (.node (headO17 P) (.node (headO33 P) .nil .nil) .nil)) (.node (headO2 P) (.node (headO13 P) (.node (headO29 P) .nil .nil) (.node (headO45 P) .nil .nil)) (.node (headO21 P) (.node (headO37 P) .nil .nil) .nil)))) (.node (headO4 P) (.node (boot_o_4 P) (.node (boot_o_8 P) (.node (headO8 P) (.node (headO24 P) .nil .nil) (.node (headO40 P) .nil .nil)) (.node (headO16 P) (.node (headO32 P) .nil .nil) .nil)) (.node (headO6 P) (.node (headO12 P) (.node (headO28 P) .nil .nil) (.node (headO44 P) .nil .nil)) (.node (headO20 P) (.node (headO36 P) .nil .nil) .nil))) (.node (boot_o_6 P) (.node (boot_o_10 P) (.node (headO10 P) (.node (headO26 P) .nil .nil) (.node (headO42 P) .nil .nil)) (.node (headO18 P) (.node (headO34 P) .nil .nil) .nil)) (.node (headO3 P) (.node (headO14 P) (.node (headO30 P) .nil .nil) .nil) (.node (headO22 P) (.node (headO38 P) .nil .nil) .nil)))))
noncomputable def headS_s9 (w : World) (os : OsState) : SharedT := ⟨headT_s9 w.params, 54, {}, #[], {}, 255, os⟩
noncomputable def headT_s10 (P : Params) : BT := (.node (boot_o_0 P) (.node (boot_o_1 P) (.node (headO46 P) (.node (boot_o_7 P) (.node (headO7 P) (.node (headO23 P) (.node (headO57 P) .nil .nil) .nil) (.node (headO39 P) (.node (headO73 P) .nil .nil) .nil)) (.node (headO15 P) (.node (headO31 P) (.node (headO65 P) .nil .nil) .nil) (.node (headO49 P) .nil .nil))) (.node (headO0 P) (.node (headO11 P) (.node (headO27 P) (.node (headO61 P) .nil .nil) .nil) (.node (headO43 P) .nil .nil)) (.node (headO19 P) (.node (headO35 P) (.node (headO69 P) .nil .nil) .nil) (.node (headO53 P) .nil .nil)))) (.node (boot_o_5 P) (.node (boot_o_9 P) (.node (headO9 P) (.node (headO25 P) (.node (headO59 P) .nil .nil) .nil) (.node (headO41 P) (.node (headO75 P) .nil .nil) .nil)) (.node (headO17 P) (.node (headO33 P) (.node (headO67 P) .nil .nil) .nil) (.node (headO51 P) .nil .nil))) (.node (headO2 P) (.node (headO13 P) (.node (headO29 P) (.node (headO63 P) .nil .nil) .nil) (.node (headO45 P) .nil .nil)) (.node (headO21 P) (.node (headO37 P) (.node (headO71 P) .nil .nil) .nil) (.node (headO55 P) .nil .nil))))) (.node (headO4 P) (.node (boot_o_4 P) (.node (boot_o_8 P) (.node (headO8 P) (.node (headO24 P) (.node (headO58 P) .nil .nil) .nil) (.node (headO40 P) (.node (headO74 P) .nil .nil) .nil)) (.node (headO16 P) (.node (headO32 P) (.node (headO66 P) .nil .nil) .nil) (.node (headO50 P) .nil .nil))) (.node (headO47 P) (.node (headO12 P) (.node (headO28 P) (.node (headO62 P) .nil .nil) .nil) (.node (headO44 P) .nil .nil)) (.node (headO20 P) (.node (headO36 P) (.node (headO70 P) .nil .nil) .nil) (.node (headO54 P) .nil .nil)))) (.node (boot_o_6 P) (.node (boot_o_10 P) (.node (headO10 P) (.node (headO26 P) (.node (headO60 P) .nil .nil) .nil) (.node (headO42 P) (.node (headO76 P) .nil .nil) .nil)) (.node (headO18 P) (.node (headO34 P) (.node (headO68 P) .nil .nil) .nil) (.node (headO52 P) .nil .nil))) (.node (headO3 P) (.node (headO14 P) (.node (headO30 P) (.node (headO64 P) .nil .nil) .nil) (.node (headO48 P) .nil .nil)) (.node (headO22 P) (.node (headO38 P) (.node (headO72 P) .nil .nil) .nil) (.node (headO56 P) .nil .nil))))))
noncomputable def headS_s10 (w : World) (os : OsState) : SharedT := ⟨headT_s10 w.params, 83, {}, #[], {}, 301, os⟩
noncomputable def headT_s20 (P : Params) : BT := (.node (boot_o_0 P) (.node (boot_o_1 P) (.node (headO77 P) (.node (boot_o_7 P) (.node (headO7 P) (.node (headO23 P) (.node (headO57 P) (.node (headO123 P) .nil .nil) .nil) (.node (headO91 P) .nil .nil)) (.node (headO39 P) (.node (headO73 P) (.node (headO139 P) .nil .nil) .nil) (.node (headO107 P) .nil .nil))) (.node (headO15 P) (.node (headO31 P) (.node (headO65 P) (.node (headO131 P) .nil .nil) .nil) (.node (headO99 P) .nil .nil)) (.node (headO49 P) (.node (headO83 P) .nil .nil) (.node (headO115 P) .nil .nil)))) (.node (headO0 P) (.node (headO11 P) (.node (headO27 P) (.node (headO61 P) (.node (headO127 P) .nil .nil) .nil) (.node (headO95 P) .nil .nil)) (.node (headO43 P) (.node (headO79 P) .nil .nil) (.node (headO111 P) .nil .nil))) (.node (headO19 P) (.node (headO35 P) (.node (headO69 P) (.node (headO135 P) .nil .nil) .nil) (.node (headO103 P) .nil .nil)) (.node (headO53 P) (.node (headO87 P) .nil .nil) (.node (headO119 P) .nil .nil))))) (.node (boot_o_5 P) (.node (boot_o_9 P) (.node (headO9 P) (.node (headO25 P) (.node (headO59 P) (.node (headO125 P) .nil .nil) .nil) (.node (headO93 P) .nil .nil)) (.node (headO41 P) (.node (headO75 P) (.node (headO141 P) .nil .nil) .nil) (.node (headO109 P) .nil .nil))) (.node (headO17 P) (.node (headO33 P) (.node (headO67 P) (.node (headO133 P) .nil .nil) .nil) (.node (headO101 P) .nil .nil)) (.node (headO51 P) (.node (headO85 P) .nil .nil) (.node (headO117 P) .nil .nil)))) (.node (headO2 P) (.node (headO13 P) (.node (headO29 P) (.node (headO63 P) (.node (headO129 P) .nil .nil) .nil) (.node (headO97 P) .nil .nil)) (.node (headO45 P) (.node (headO81 P) .nil .nil) (.node (headO113 P) .nil .nil))) (.node (headO21 P) (.node (headO37 P) (.node (headO71 P) (.node (headO137 P) .nil .nil) .nil) (.node (headO105 P) .nil .nil)) (.node (headO55 P) (.node (headO89 P) .nil .nil) (.node (headO121 P) .nil .nil)))))) (.node (headO4 P) (.node (boot_o_4 P) (.node (boot_o_8 P) (.node (headO8 P) (.node (headO24 P) (.node (headO58 P) (.node (headO124 P) .nil .nil) .nil) (.node (headO92 P) .nil .nil)) (.node (headO40 P) (.node (headO74 P) (.node (headO140 P) .nil .nil) .nil) (.node (headO108 P) .nil .nil))) (.node (headO16 P) (.node (headO32 P) (.node (headO66 P) (.node (headO132 P) .nil .nil) .nil) (.node (headO100 P) .nil .nil)) (.node (headO50 P) (.node (headO84 P) .nil .nil) (.node (headO116 P) .nil .nil)))) (.node (headO78 P) (.node (headO12 P) (.node (headO28 P) (.node (headO62 P) (.node (headO128 P) .nil .nil) .nil) (.node (headO96 P) .nil .nil)) (.node (headO44 P) (.node (headO80 P) .nil .nil) (.node (headO112 P) .nil .nil))) (.node (headO20 P) (.node (headO36 P) (.node (headO70 P) (.node (headO136 P) .nil .nil) .nil) (.node (headO104 P) .nil .nil)) (.node (headO54 P) (.node (headO88 P) .nil .nil) (.node (headO120 P) .nil .nil))))) (.node (boot_o_6 P) (.node (boot_o_10 P) (.node (headO10 P) (.node (headO26 P) (.node (headO60 P) (.node (headO126 P) .nil .nil) .nil) (.node (headO94 P) .nil .nil)) (.node (headO42 P) (.node (headO76 P) (.node (headO142 P) .nil .nil) .nil) (.node (headO110 P) .nil .nil))) (.node (headO18 P) (.node (headO34 P) (.node (headO68 P) (.node (headO134 P) .nil .nil) .nil) (.node (headO102 P) .nil .nil)) (.node (headO52 P) (.node (headO86 P) .nil .nil) (.node (headO118 P) .nil .nil)))) (.node (headO3 P) (.node (headO14 P) (.node (headO30 P) (.node (headO64 P) (.node (headO130 P) .nil .nil) .nil) (.node (headO98 P) .nil .nil)) (.node (headO48 P) (.node (headO82 P) .nil .nil) (.node (headO114 P) .nil .nil))) (.node (headO22 P) (.node (headO38 P) (.node (headO72 P) (.node (headO138 P) .nil .nil) .nil) (.node (headO106 P) .nil .nil)) (.node (headO56 P) (.node (headO90 P) .nil .nil) (.node (headO122 P) .nil .nil)))))))
noncomputable def headS_s20 (w : World) (os : OsState) : SharedT := ⟨headT_s20 w.params, 147, {}, #[], {}, 395, os⟩
noncomputable def headT_s30 (P : Params) : BT := (.node (boot_o_0 P) (.node (boot_o_1 P) (.node (headO143 P) (.node (boot_o_7 P) (.node (headO7 P) (.node (headO23 P) (.node (headO57 P) (.node (headO123 P) .nil .nil) (.node (headO189 P) .nil .nil)) (.node (headO91 P) (.node (headO157 P) .nil .nil) .nil)) (.node (headO39 P) (.node (headO73 P) (.node (headO139 P) .nil .nil) (.node (headO205 P) .nil .nil)) (.node (headO107 P) (.node (headO173 P) .nil .nil) .nil))) (.node (headO15 P) (.node (headO31 P) (.node (headO65 P) (.node (headO131 P) .nil .nil) (.node (headO197 P) .nil .nil)) (.node (headO99 P) (.node (headO165 P) .nil .nil) .nil)) (.node (headO49 P) (.node (headO83 P) (.node (headO149 P) .nil .nil) .nil) (.node (headO115 P) (.node (headO181 P) .nil .nil) .nil)))) (.node (headO0 P) (.node (headO11 P) (.node (headO27 P) (.node (headO61 P) (.node (headO127 P) .nil .nil) (.node (headO193 P) .nil .nil)) (.node (headO95 P) (.node (headO161 P) .nil .nil) .nil)) (.node (headO43 P) (.node (headO79 P) (.node (headO145 P) .nil .nil) .nil) (.node (headO111 P) (.node (headO177 P) .nil .nil) .nil))) (.node (headO19 P) (.node (headO35 P) (.node (headO69 P) (.node (headO135 P) .nil .nil) (.node (headO201 P) .nil .nil)) (.node (headO103 P) (.node (headO169 P) .nil .nil) .nil)) (.node (headO53 P) (.node (headO87 P) (.node (headO153 P) .nil .nil) .nil) (.node (headO119 P) (.node (headO185 P) .nil .nil) .nil))))) (.node (boot_o_5 P) (.node (boot_o_9 P) (.node (headO9 P) (.node (headO25 P) (.node (headO59 P) (.node (headO125 P) .nil .nil) (.node (headO191 P) .nil .nil)) (.node (headO93 P) (.node (headO159 P) .nil .nil) .nil)) (.node (headO41 P) (.node (headO75 P) (.node (headO141 P) .nil .nil) (.node (headO207 P) .nil .nil)) (.node (headO109 P) (.node (headO175 P) .nil .nil) .nil))) (.node (headO17 P) (.node (headO33 P) (.node (headO67 P) (.node (headO133 P) .nil .nil) (.node (headO199 P) .nil .nil)) (.node (headO101 P) (.node (headO167 P) .nil .nil) .nil)) (.node (headO51 P) (.node (headO85 P) (.node (headO151 P) .nil .nil) .nil) (.node (headO117 P) (.node (headO183 P) .nil .nil) .nil)))) (.node (headO2 P) (.node (headO13 P) (.node (headO29 P) (.node (headO63 P) (.node (headO129 P) .nil .nil) (.node (headO195 P) .nil .nil)) (.node (headO97 P) (.node (headO163 P) .nil .nil) .nil)) (.node (headO45 P) (.node (headO81 P) (.node (headO147 P) .nil .nil) .nil) (.node (headO113 P) (.node (headO179 P) .nil .nil) .nil))) (.node (headO21 P) (.node (headO37 P) (.node (headO71 P) (.node (headO137 P) .nil .nil) (.node (headO203 P) .nil .nil)) (.node (headO105 P) (.node (headO171 P) .nil .nil) .nil)) (.node (headO55 P) (.node (headO89 P) (.node (headO155 P) .nil .nil) .nil) (.node (headO121 P) (.node (headO187 P) .nil .nil) .nil)))))) (.node (headO4 P) (.node (boot_o_4 P) (.node (boot_o_8 P) (.node (headO8 P) (.node (headO24 P) (.node (headO58 P) (.node (headO124 P) .nil .nil) (.node (headO190 P) .nil .nil)) (.node (headO92 P) (.node (headO158 P) .nil .nil) .nil)) (.node (headO40 P) (.node (headO74 P) (.node (headO140 P) .nil .nil) (.node (headO206 P) .nil .nil)) (.node (headO108 P) (.node (headO174 P) .nil .nil) .nil))) (.node (headO16 P) (.node (headO32 P) (.node (headO66 P) (.node (headO132 P) .nil .nil) (.node (headO198 P) .nil .nil)) (.node (headO100 P) (.node (headO166 P) .nil .nil) .nil)) (.node (headO50 P) (.node (headO84 P) (.node (headO150 P) .nil .nil) .nil) (.node (headO116 P) (.node (headO182 P) .nil .nil) .nil)))) (.node (headO144 P) (.node (headO12 P) (.node (headO28 P) (.node (headO62 P) (.node (headO128 P) .nil .nil) (.node (headO194 P) .nil .nil)) (.node (headO96 P) (.node (headO162 P) .nil .nil) .nil)) (.node (headO44 P) (.node (headO80 P) (.node (headO146 P) .nil .nil) .nil) (.node (headO112 P) (.node (headO178 P) .nil .nil) .nil))) (.node (headO20 P) (.node (headO36 P) (.node (headO70 P) (.node (headO136 P) .nil .nil) (.node (headO202 P) .nil .nil)) (.node (headO104 P) (.node (headO170 P) .nil .nil) .nil)) (.node (headO54 P) (.node (headO88 P) (.node (headO154 P) .nil .nil) .nil) (.node (headO120 P) (.node (headO186 P) .nil .nil) .nil))))) (.node (boot_o_6 P) (.node (boot_o_10 P) (.node (headO10 P) (.node (headO26 P) (.node (headO60 P) (.node (headO126 P) .nil .nil) (.node (headO192 P) .nil .nil)) (.node (headO94 P) (.node (headO160 P) .nil .nil) .nil)) (.node (headO42 P) (.node (headO76 P) (.node (headO142 P) .nil .nil) (.node (headO208 P) .nil .nil)) (.node (headO110 P) (.node (headO176 P) .nil .nil) .nil))) (.node (headO18 P) (.node (headO34 P) (.node (headO68 P) (.node (headO134 P) .nil .nil) (.node (headO200 P) .nil .nil)) (.node (headO102 P) (.node (headO168 P) .nil .nil) .nil)) (.node (headO52 P) (.node (headO86 P) (.node (headO152 P) .nil .nil) .nil) (.node (headO118 P) (.node (headO184 P) .nil .nil) .nil)))) (.node (headO3 P) (.node (headO14 P) (.node (headO30 P) (.node (headO64 P) (.node (headO130 P) .nil .nil) (.node (headO196 P) .nil .nil)) (.node (headO98 P) (.node (headO164 P) .nil .nil) .nil)) (.node (headO48 P) (.node (headO82 P) (.node (headO148 P) .nil .nil) .nil) (.node (headO114 P) (.node (headO180 P) .nil .nil) .nil))) (.node (headO22 P) (.node (headO38 P) (.node (headO72 P) (.node (headO138 P) .nil .nil) (.node (headO204 P) .nil .nil)) (.node (headO106 P) (.node (headO172 P) .nil .nil) .nil)) (.node (headO56 P) (.node (headO90 P) (.node (headO156 P) .nil .nil) .nil) (.node (headO122 P) (.node (headO188 P) .nil .nil) .nil)))))))
noncomputable def headS_s30 (w : World) (os : OsState) : SharedT := ⟨headT_s30 w.params, 211, {}, #[], {}, 486, os⟩
noncomputable def headH (P : Params) : Heap := ⟨#[boot_o_0 P, boot_o_1 P, headO4 P, headO143 P, boot_o_4 P, boot_o_5 P, boot_o_6 P, boot_o_7 P, boot_o_8 P, boot_o_9 P, boot_o_10 P, headO0 P, headO144 P, headO2 P, headO3 P, headO7 P, headO8 P, headO9 P, headO10 P, headO11 P, headO12 P, headO13 P, headO14 P, headO15 P, headO16 P, headO17 P, headO18 P, headO19 P, headO20 P, headO21 P, headO22 P, headO23 P, headO24 P, headO25 P, headO26 P, headO27 P, headO28 P, headO29 P, headO30 P, headO31 P, headO32 P, headO33 P, headO34 P, headO35 P, headO36 P, headO37 P, headO38 P, headO39 P, headO40 P, headO41 P, headO42 P, headO43 P, headO44 P, headO45 P, headO48 P, headO49 P, headO50 P, headO51 P, headO52 P, headO53 P, headO54 P, headO55 P, headO56 P, headO57 P, headO58 P, headO59 P, headO60 P, headO61 P, headO62 P, headO63 P, headO64 P, headO65 P, headO66 P, headO67 P, headO68 P, headO69 P, headO70 P, headO71 P, headO72 P, headO73 P, headO74 P, headO75 P, headO76 P, headO79 P, headO80 P, headO81 P, headO82 P, headO83 P, headO84 P, headO85 P, headO86 P, headO87 P, headO88 P, headO89 P, headO90 P, headO91 P, headO92 P, headO93 P, headO94 P, headO95 P, headO96 P, headO97 P, headO98 P, headO99 P, headO100 P, headO101 P, headO102 P, headO103 P, headO104 P, headO105 P, headO106 P, headO107 P, headO108 P, headO109 P, headO110 P, headO111 P, headO112 P, headO113 P, headO114 P, headO115 P, headO116 P, headO117 P, headO118 P, headO119 P, headO120 P, headO121 P, headO122 P, headO123 P, headO124 P, headO125 P, headO126 P, headO127 P, headO128 P, headO129 P, headO130 P, headO131 P, headO132 P, headO133 P, headO134 P, headO135 P, headO136 P, headO137 P, headO138 P, headO139 P, headO140 P, headO141 P, headO142 P, headO145 P, headO146 P, headO147 P, headO148 P, headO149 P, headO150 P, headO151 P, headO152 P, headO153 P, headO154 P, headO155 P, headO156 P, headO157 P, headO158 P, headO159 P, headO160 P, headO161 P, headO162 P, headO163 P, headO164 P, headO165 P, headO166 P, headO167 P, headO168 P, headO169 P, headO170 P, headO171 P, headO172 P, headO173 P, headO174 P, headO175 P, headO176 P, headO177 P, headO178 P, headO179 P, headO180 P, headO181 P, headO182 P, headO183 P, headO184 P, headO185 P, headO186 P, headO187 P, headO188 P, headO189 P, headO190 P, headO191 P, headO192 P, headO193 P, headO194 P, headO195 P, headO196 P, headO197 P, headO198 P, headO199 P, headO200 P, headO201 P, headO202 P, headO203 P, headO204 P, headO205 P, headO206 P, headO207 P, headO208 P], {}⟩
noncomputable def headS (w : World) (os : OsState) : Shared := ⟨headH w.params, #[], {}, 486, os⟩
noncomputable def headE : Env := { scope := headP.main.scope, locals := mainNs, globals := mainNs, cells := [], code := .ref 13, frame := some 14 }
noncomputable abbrev headC : Code := .body headP.main.body headE
def headQ : Pos := ⟨0, 0, 0, 0⟩
abbrev headF : List Frame := [topFrame headQ]
def headAnn : Option Value := some (.ref 6)
theorem head_pre : ∀ w : World, (fun os => topGo treeTable headP w 11 headAnn 12 ⟨boot_heap w.params, Array.mk [], boot_drawn, boot_toks, os⟩ (topStub headP)) = fun os => some ((headS_pre w os).abs, ⟨denote treeTable headC, headC, headQ, headF⟩) := by intro w; kernel_rfl
theorem head_block : ∀ w : World, (fun os => segRun treeTable headP w 11 headAnn 1 1 (headS_pre w os).abs (blockOf headP.main.body headE headC headQ headF)) = fun os => some (.next, (headS_pre w os).abs, headC, headQ) := by intro w; kernel_rfl
noncomputable def headL_s9 : List Stmt := (headP.main.body.drop 0).take 10
theorem head_s9 : ∀ w : World, (fun os => segRunT treeTable headP w 11 headAnn 1 600 (headS_pre w os) (piecesOf headL_s9 headE headC headQ headF)) = fun os => some (.next, headS_s9 w os, headC, ⟨21, 0, 21, 3⟩) := by intro w; kernel_rfl
noncomputable def headL_s10 : List Stmt := (headP.main.body.drop 10).take 1
theorem head_s10 : ∀ w : World, (fun os => segRunT treeTable headP w 11 headAnn 1 300 (headS_s9 w os) (piecesOf headL_s10 headE headC ⟨21, 0, 21, 3⟩ headF)) = fun os => some (.next, headS_s10 w os, headC, ⟨22, 0, 39, 37⟩) := by intro w; kernel_rfl
noncomputable def headL_s20 : List Stmt := (headP.main.body.drop 11).take 10
theorem head_s20 : ∀ w : World, (fun os => segRunT treeTable headP w 11 headAnn 1 400 (headS_s10 w os) (piecesOf headL_s20 headE headC ⟨22, 0, 39, 37⟩ headF)) = fun os => some (.next, headS_s20 w os, headC, ⟨146, 0, 147, 49⟩) := by intro w; kernel_rfl
noncomputable def headL_s30 : List Stmt := (headP.main.body.drop 21).take 10
theorem head_s30 : ∀ w : World, (fun os => segRunT treeTable headP w 11 headAnn 1 400 (headS_s20 w os) (piecesOf headL_s30 headE headC ⟨146, 0, 147, 49⟩ headF)) = fun os => some (.next, headS_s30 w os, headC, ⟨229, 0, 244, 15⟩) := by intro w; kernel_rfl
theorem head_fin : ∀ w : World, (fun os => topRun treeTable headP w 11 headAnn 2 (headS_s30 w os).abs ⟨doneF .next, headC, ⟨229, 0, 244, 15⟩, headF⟩) = fun os => some (headS w os) := by intro w; kernel_rfl
theorem head_parts : headP.main.body = (headL_s9 ++ (headL_s10 ++ (headL_s20 ++ (headL_s30 ++ [])))) := by kernel_rfl
theorem head_run (w : World) (os : OsState) : topRun treeTable headP w 11 headAnn (12 + (1 + (600 + (300 + (400 + (400 + 2)))))) ⟨boot_heap w.params, Array.mk [], boot_drawn, boot_toks, os⟩ (topStub headP) = some (headS w os) :=
  go_top (congrFun (head_pre w) os) (piece_block (congrFun (head_block w) os)
    ((congrArg (fun l => topRun treeTable headP w 11 headAnn (600 + (300 + (400 + (400 + 2)))) (headS_pre w os).abs (restOf l headE headC headQ headF)) head_parts).trans
      (piece_app (segRun_of (congrFun (head_s9 w) os)) (piece_app (segRun_of (congrFun (head_s10 w) os)) (piece_app (segRun_of (congrFun (head_s20 w) os)) (piece_app (segRun_of (congrFun (head_s30 w) os)) (piece_nil (congrFun (head_fin w) os))))))))
theorem head_size : ∀ w : World, ((boot_heap w.params).isNs mainGlobals && (Array.mk [] : Array GenState).size == 0, (boot_heap w.params).objs.size, (boot_heap w.params).nsMap mainGlobals "__annotations__") = (true, 11, headAnn) := by intro w; kernel_rfl
theorem head_open : opening headP = plainProg headP.main.scope.names := by kernel_rfl
theorem head_fence : ∀ s, fenceModules? headP s = some s := by intro s; kernel_rfl
/-- what is left to a look: all is read off the state at the end -/
abbrev AtOnce (p : Prop) : Prop := p
theorem head_left {q : Program} {loose : List Str} {Xt : Shared → Bool} {α : Type} {Yf : Shared → α} {Ya : World → α} {N : Nat}
    (h : ∀ w : World, (Nat.ble 600 N && Nat.ble (12 + (1 + (600 + (300 + (400 + (400 + 2)))))) N, fun os => ((staticsOk [] (boot_heap w.params) (headH w.params) && namesBound headP (headH w.params) && gensDone (headS w os) && laidKept (boot_heap w.params) (headH w.params)),
      openSeen q loose [] Xt true (headS w os), Yf (headS w os))) = (true, fun _ => (true, openGood q loose, Ya w))) :
    LeftO headP q loose Xt Yf Ya N := fun w => by
  have hb := Bool.and_eq_true_iff.mp (congrArg Prod.fst (h w))
  refine LeftO.of_pieces (H₀ := boot_heap) (H₁ := headH) (boot_open head_open hb.1 head_fence) head_size head_run hb.2 (fun w => Eq.trans ?_ (congrArg Prod.snd (h w))) w
  kernel_rfl
def PySem.W.holds_open {q : Program} {loose : List Str} {Xt : Shared → Bool} {XP : (Str → Option Value) → Heap → Prop} {α : Type} {Yf : Shared → α} {Ya : World → α} {YP : World → Heap → Prop} {d} {kwd} {N : Nat}
    (left : AtOnce (∀ w : World, (Nat.ble 600 N && Nat.ble (12 + (1 + (600 + (300 + (400 + (400 + 2)))))) N, fun os => ((staticsOk [] (boot_heap w.params) (headH w.params) && namesBound headP (headH w.params) && gensDone (headS w os) && laidKept (boot_heap w.params) (headH w.params)),
      openSeen q loose [] Xt true (headS w os), Yf (headS w os))) = (true, fun _ => (true, openGood q loose, Ya w)))) :=
  @_root_.PySem.W.holds_open PySem.Challenge.rw_nt0095_01.row q loose Xt XP α Yf Ya YP d kwd N (head_left left)
open_top hd for PySem.Challenge.rw_nt0095_01

theorem fill : ∀ (o : PySem.W.OpenLaw) (w : World) (h : Heap), o = PySem.Challenge.rw_nt0095_01 → (hd.heap_39 w.params).In h → True := by
  k_fill
  intro _ _ _ _ _
  trivial

structure Amb (w : World) (G : Heap) : Prop where
  X : (hd.heap_39 w.params).In G
  T : ∃ p loose mg mb, TopRead p loose mg mb G

def Sub (h h' : Heap) : Prop := ∀ b o, h.get? b = some o → h'.get? b = some o
theorem Sub.refl (h : Heap) : Sub h h := fun _ _ e => e
theorem Sub.trans {a b c : Heap} (x : Sub a b) (y : Sub b c) : Sub a c := fun b o e => y b o (x b o e)
theorem Amb.up {w : World} {G G' : Heap} (am : Amb w G) (k : Sub G G') : Amb w G' :=
  ⟨am.X.keeps k, by obtain ⟨p, l, mg, mb, T⟩ := am.T; exact ⟨p, l, mg, mb, T.keeps k⟩⟩

def Ok (k : Nat) (A : Around) : Prop := A.handled = none ∧ A.depth + k ≤ 900 ∧ A.units + 40 * k ≤ 9000
theorem Ok.deep {k : Nat} {A : Around} (h : Ok (k + 1) A) (env : Env) : Ok k (A.deeper env) :=
  ⟨h.1, by have := h.2.1; simp only [depth_deeper]; omega, by have := h.2.2; simp only [units_deeper]; omega⟩
theorem Ok.le {k j : Nat} {A : Around} (h : Ok k A) (hj : j ≤ k) : Ok j A := ⟨h.1, by have := h.2.1; omega, by have := h.2.2; omega⟩
theorem Ok.room {k : Nat} {A : Around} (h : Ok k A) : A.depth < recursionLimit := by have := h.2.1; unfold recursionLimit; omega
theorem Ok.units {k : Nat} {A : Around} (h : Ok k A) : A.units < cLine := by have := h.2.2; unfold cLine; omega

section
variable {w : World} {A : Around} {s : Shared} {name qual : Str} {params : Arguments} {body : List Stmt} {scope : Scope} {dV kV doc pm cdv ct oc : Value} {an od : Option Addr} {osl : Array (Option Value)} {f : Addr} {pos : List Value} {kw : List (Str × Value)} {binds : List (Str × Value)}
theorem enter {G : Heap} {news : List (Addr × Obj)} {Q : Value → Shared → Prop} {E' : Value → Shared → Prop}
    (am : Amb w G) (hG : Sub G s.heap) (hz : G.objs.size ≤ s.heap.objs.size) (N : ∀ p ∈ news, s.heap.get? p.1 = some p.2 ∧ G.get? p.1 = none)
    (hroom : A.depth < recursionLimit)
    (ho : (hd.heap_39 w.params).lookup f = some ⟨oc, od, .func (fnOf name qual params body scope dV kV doc pm an cdv ct), osl⟩) (hcd : codeIn (hd.heap_39 w.params) cdv qual = true)
    (hbind : BindsTo s (fnOf name qual params body scope dV kV doc pm an cdv ct) ⟨pos, kw⟩ binds) (hloc : ∀ y ∈ binds, scope.names.lookup y.1 = some .local)
    (h : ∀ L h₁, L = s.heap.objs.size → Sub s.heap h₁ → Fr G L h₁ (fun y => binds.reverse.lookup y) → News G L h₁ news →
      wpAny (model PySem.Challenge.rw_nt0095_01.row.prog w) (A.deeper (envOf qual scope L f cdv)) (execs body (envOf qual scope L f cdv))
        (fun fl s' => Q (match fl with | .ret v => v | _ => .none) s') (fun e s' => wpAny (model PySem.Challenge.rw_nt0095_01.row.prog w) (A.deeper (envOf qual scope L f cdv)) (leaving (envOf qual scope L f cdv) e) (fun _ s'' => E' e s'') (fun e' s'' => E' e' s'') s')
        { s with heap := h₁, toks := s.toks + binds.length })
    (hco : scope.isCoroutine = false := by rfl) (hgen : scope.isGenerator = false := by rfl) (hk : scope.kind = .function := by rfl)
    (hcell : ∀ x ∈ scope.names, x.2 ≠ .cell := by decide) :
    wpAny (model PySem.Challenge.rw_nt0095_01.row.prog w) A (call (.ref f) pos kw) Q E' s := by
  obtain ⟨p, l, mg, mb, T⟩ := am.T
  refine wpAny_call ?_
  refine codeAny_call_def (fd := fnOf name qual params body scope dV kV doc pm an cdv ct) (body := body) (binds := binds) hroom (hG _ _ (am.X _ _ ho)) rfl (T.nolimit.keeps hG) (codeRec_of (am.X.keeps hG) hcd) rfl hbind hcell hloc (fun h₁ hns hk₁ => ?_) hco hgen hk
  refine wpAny_mono (h s.heap.objs.size h₁ rfl hk₁ ⟨hns, fun b o e => hk₁ b o (hG b o e), hz⟩ (fun p hp => ⟨hk₁ _ _ (N p hp).1, Nat.ne_of_lt (Heap.lt_size (N p hp).1), (N p hp).2⟩)) (fun fl s' q => q) fun _ _ q => q

/-- a call that never raises, all of the heap kept -/
theorem enterP {Q : Value → Shared → Prop}
    (am : Amb w s.heap) (hroom : A.depth < recursionLimit)
    (ho : (hd.heap_39 w.params).lookup f = some ⟨oc, od, .func (fnOf name qual params body scope dV kV doc pm an cdv ct), osl⟩) (hcd : codeIn (hd.heap_39 w.params) cdv qual = true)
    (hbind : BindsTo s (fnOf name qual params body scope dV kV doc pm an cdv ct) ⟨pos, kw⟩ binds) (hloc : ∀ y ∈ binds, scope.names.lookup y.1 = some .local)
    (h : ∀ L h₁, L = s.heap.objs.size → Fr s.heap L h₁ (fun y => binds.reverse.lookup y) → News s.heap L h₁ [] →
      wpAny (model PySem.Challenge.rw_nt0095_01.row.prog w) (A.deeper (envOf qual scope L f cdv)) (execs body (envOf qual scope L f cdv))
        (fun fl s' => Q (match fl with | .ret v => v | _ => .none) s') (fun _ _ => False)
        { s with heap := h₁, toks := s.toks + binds.length })
    (hco : scope.isCoroutine = false := by rfl) (hgen : scope.isGenerator = false := by rfl) (hk : scope.kind = .function := by rfl)
    (hcell : ∀ x ∈ scope.names, x.2 ≠ .cell := by decide) :
    wpAny (model PySem.Challenge.rw_nt0095_01.row.prog w) A (call (.ref f) pos kw) Q (fun _ _ => False) s :=
  enter (G := s.heap) (news := []) am (Sub.refl _) (Nat.le_refl _) (fun _ hp => nomatch hp) hroom ho hcd hbind hloc
    (fun L h₁ e _ F N => wpAny_mono (h L h₁ e F N) (fun _ _ q => q) fun _ _ q => q.elim) hco hgen hk hcell
end

theorem frSet {G h : Heap} {L : Addr} {m : Str → Option Value} {x : Str} {v : Value} (F : Fr G L h m) (hx : m x = some v) : Fr G L h (fun y => if y = x then some v else m y) := by
  have e : (fun y => if y = x then some v else m y) = m := by
    funext y
    by_cases hy : y = x
    · rw [if_pos hy, hy, hx]
    · rw [if_neg hy]
  rw [e]; exact F

theorem allLt_mem {d : Addr} {l : List (Addr × Obj)} (h : AllLt d l) : ∀ p ∈ l, @LT.lt Nat _ p.1 d := by
  induction l with
  | nil => intro p hp; cases hp
  | cons q r ih =>
    intro p hp
    rcases List.mem_cons.mp hp with e | hp
    · rw [e]; exact h.1
    · exact ih h.2 p hp
theorem allLt_ne {d : Addr} {l : List (Addr × Obj)} (h : AllLt d l) : ∀ p ∈ l, p.1 ≠ d := fun p hp => Nat.ne_of_lt (allLt_mem h p hp)

/-- what the end of a turn owes: a while -/
def WEnd (G : Heap) (L : Addr) (Inv : Nat → (Str → Option Value) → List (Addr × Obj) → Prop) (n : Nat) (s : Shared) (Q : Flow → Shared → Prop) (f : Flow) (s₂ : Shared) : Prop :=
  match f with
  | .ret v => Q (.ret v) s₂
  | .brk => Q .next s₂
  | _ => ∃ n' h' tk' m' news', n' < n ∧ s₂ = { s with heap := h', toks := tk' } ∧ Fr G L h' m' ∧ News G L h' news' ∧ Inv n' m' news'

section
variable {prog : Program} {w : World} {A : Around} {s : Shared} {env : Env} {G : Heap} {body : List Stmt} {Q : Flow → Shared → Prop} {test : Expr} {pos : Pos} {m₀ : Str → Option Value} {news₀ : List (Addr × Obj)}
theorem while_inv {L : Addr} (Inv : Nat → (Str → Option Value) → List (Addr × Obj) → Prop) (n₀ : Nat) (F : Fr G L s.heap m₀) (N : News G L s.heap news₀) (h0 : Inv n₀ m₀ news₀)
    (turn : ∀ n m news h tk, Inv n m news → Fr G L h m → News G L h news →
      wpAny (model prog w) A (isTrue test env (eval test env)) (fun b s₂ => if b then wpAny (model prog w) A (execs body env) (WEnd G L Inv n s Q) (fun _ _ => False) s₂ else Q .next s₂) (fun _ _ => False) { s with heap := h, toks := tk }) :
    wpAny (model prog w) A (exec (.While test body [] pos) env) Q (fun _ _ => False) s := by
  refine wpAny_While (codeAny_whileLoop (fun n s' => ∃ h tk m news, s' = { s with heap := h, toks := tk } ∧ Inv n m news ∧ Fr G L h m ∧ News G L h news) ?_ n₀ ⟨_, _, _, _, rfl, h0, F, N⟩)
  rintro n s' ⟨h, tk, m, news, rfl, hI, F', N'⟩
  refine wpAny_mono (turn n m news h tk hI F' N') (fun b s₂ hb => ?_) fun _ _ x => x.elim
  cases b with
  | false =>
    simp only [Bool.false_eq_true, if_false] at hb ⊢
    exact wpAny_execs_nil hb
  | true =>
    simp only [if_true] at hb ⊢
    refine wpAny_mono hb (fun f s₃ hf => ?_) fun _ _ x => x.elim
    cases f with
    | ret v => exact hf
    | brk => exact hf
    | next =>
      obtain ⟨n', h', tk', m', news', hn, rfl, F'', N'', hi⟩ := hf
      exact ⟨n', hn, h', tk', m', news', rfl, hi, F'', N''⟩
    | cont =>
      obtain ⟨n', h', tk', m', news', hn, rfl, F'', N'', hi⟩ := hf
      exact ⟨n', hn, h', tk', m', news', rfl, hi, F'', N''⟩
end

/-- what the end of a turn owes: a for -/
def TEnd (G : Heap) (L : Addr) (I : Addr) (oI : Obj) (Inv : (Str → Option Value) → List (Addr × Obj) → Prop) (s : Shared) (Q : Flow → Shared → Prop) (f : Flow) (s₂ : Shared) : Prop :=
  match f with
  | .ret v => Q (.ret v) s₂
  | .brk => Q .next s₂
  | _ => ∃ h' tk' m' news', s₂ = { s with heap := h', toks := tk' } ∧ Fr G L h' m' ∧ News G L h' ((I, oI) :: news') ∧ (∀ p ∈ news', p.1 ≠ I) ∧ Inv m' news'

section
variable {prog : Program} {w : World} {A : Around} {E : Value → Shared → Prop} {s : Shared} {env : Env} {G : Heap} {x : Str} {body : List Stmt} {Q : Flow → Shared → Prop} {m₀ : Str → Option Value} {news₀ : List (Addr × Obj)}
theorem loop_gen {I : Addr} {rest : List Addr} {n : Nat} {P : Nat → Value → Prop} {St : Nat → Heap → Prop} (W : Walks prog w A I (I :: rest) [I] n P St)
    (alive : ∀ i h, St i h → ∃ o, h.get? I = some o) (hI : G.get? I = none) (hL : env.locals ≠ I) (hrest : ∀ b ∈ rest, (∃ o, G.get? b = some o) ∧ env.locals ≠ b) (hst : St 0 s.heap)
    (F : Fr G env.locals s.heap m₀) (N : News G env.locals s.heap news₀) (off : ∀ p ∈ news₀, p.1 ≠ I)
    (Inv : Nat → (Str → Option Value) → List (Addr × Obj) → Prop) (h0 : Inv 0 m₀ news₀)
    (turn : ∀ i v m news h tk oI, i < n → P i v → Inv i m news → (∀ p ∈ news, p.1 ≠ I) → Fr G env.locals h (fun y => if y = x then some v else m y) → News G env.locals h ((I, oI) :: news) →
      wpAny (model prog w) A (execs body env) (TEnd G env.locals I oI (Inv (i + 1)) s Q) E { s with heap := h, toks := tk })
    (done : ∀ m news h tk, Inv n m news → Fr G env.locals h m → News G env.locals h news → Q .next { s with heap := h, toks := tk }) :
    LoopAtV prog w A G env x body Q E (.ref I) s := by
  refine ⟨I, I :: rest, [I], n, P, St, m₀, news₀, Inv, rfl, W, ?_, ?_, ?_, hst, F, N, h0, ?_, ?_⟩
  · intro hm
    rcases List.mem_cons.mp hm with e | hm
    · exact hL e
    · exact (hrest _ hm).2 rfl
  · intro b hb
    rw [List.mem_singleton.mp hb]; exact hI
  · intro p hp hb
    exact off p hp (List.mem_singleton.mp hb)
  · rintro i v m₁ news₁ s₁ own ⟨h, tk, rfl⟩ hi hP hJ hoff hown hget hall hst' F₁ N₁
    obtain ⟨oI, ho⟩ := alive _ _ hst'
    have hin : (I, oI) ∈ own := hall I (.head _) hI oI ho
    have offI : ∀ p ∈ news₁, p.1 ≠ I := fun p hp e => hoff p hp (List.mem_singleton.mpr e)
    have onlyI : ∀ p ∈ own, p = (I, oI) := fun p hp => by
      have hG := (N₁ p (List.mem_append_left _ hp)).2.2
      rcases List.mem_cons.mp (hown p hp) with e | e
      · have h2 := hget p hp
        have h3 : h.get? I = some oI := ho
        have h2' : h.get? p.1 = some p.2 := h2
        rw [e, h3] at h2'
        exact Prod.ext e (Option.some.inj h2').symm
      · obtain ⟨o, ho'⟩ := (hrest _ e).1
        rw [ho'] at hG; cases hG
    have N₂ : News G env.locals h ((I, oI) :: news₁) := fun p hp => by
      rcases List.mem_cons.mp hp with rfl | hp
      · exact N₁ _ (List.mem_append_left _ hin)
      · exact N₁ _ (List.mem_append_right _ hp)
    refine wpAny_mono (turn i v m₁ news₁ h tk oI hi hP hJ offI F₁ N₂) (fun f s₂ p => ?_) fun _ _ e => e
    have fin : (∃ h' tk' m' news', s₂ = { s with heap := h', toks := tk' } ∧ Fr G env.locals h' m' ∧ News G env.locals h' ((I, oI) :: news') ∧ (∀ p ∈ news', p.1 ≠ I) ∧ Inv (i + 1) m' news') →
        LoopStepU G env.locals [I] own (Inv (i + 1)) { s with heap := h, toks := tk } .next s₂ := by
      rintro ⟨h', tk', m', news', rfl, F', N', ho', hJ'⟩
      refine ⟨rfl, h', tk', m', news', rfl, F', ?_, ?_, hJ'⟩
      · intro p hp
        rcases List.mem_append.mp hp with q | q
        · rw [onlyI p q]; exact N' _ (.head _)
        · exact N' _ (.tail _ q)
      · intro p hp hb
        exact ho' p hp (List.mem_singleton.mp hb)
    cases f with
    | ret v => exact .ret p
    | brk => exact .brk p
    | next => exact .next (fin p)
    | cont => exact .cont (fin p)
  · intro h' tk m' news' F' N' _ hJ
    exact done m' news' h' tk hJ F' N'

theorem forF {px pos : Pos} {iter : Expr} (G : Heap) (hx : env.kindOf x = some .local)
    (hp : (env.scope.kind == .class || (env.scope.kind == .module && env.locals != env.globals)) = false)
    (h : wpAny (model prog w) A (eval iter env) (fun xv s₁ => wpAny (model prog w) A (pyIter xv) (fun it s₂ => LoopAtV prog w A G env x body Q (fun _ _ => False) it s₂) (fun _ _ => False) s₁) (fun _ _ => False) s)
    (hs : ∀ x, foldedSetIterable iter env x = pure x := by intro _; rfl) :
    wpAny (model prog w) A (exec (.For (.Name x px) iter body [] pos) env) Q (fun _ _ => False) s := For_invV G hx hp h hs PassesOwn.never

theorem loop_str {xs : Str} {t : Tok} (hh : A.handled = none) (F : Fr G env.locals s.heap m₀) (N : News G env.locals s.heap news₀)
    (Inv : Nat → (Str → Option Value) → List (Addr × Obj) → Prop) (h0 : Inv 0 m₀ news₀)
    (turn : ∀ i c t m news h tk I oI, xs.cps[i]? = some c → Inv i m news → (∀ p ∈ news, p.1 ≠ I) → (∀ p ∈ news₀, @LT.lt Nat _ p.1 I) → Fr G env.locals h (fun y => if y = x then some (.str ⟨#[c]⟩ t) else m y) → News G env.locals h ((I, oI) :: news) →
      wpAny (model prog w) A (execs body env) (TEnd G env.locals I oI (Inv (i + 1)) s Q) E { s with heap := h, toks := tk })
    (done : ∀ m news h tk, Inv xs.cps.size m news → Fr G env.locals h m → News G env.locals h news → Q .next { s with heap := h, toks := tk }) :
    wpAny (model prog w) A (pyIter (.str xs t)) (fun it s₂ => LoopAtV prog w A G env x body Q E it s₂) E s := by
  have hI : s.heap.get? s.heap.objs.size = none := by
    cases e : s.heap.get? s.heap.objs.size with
    | none => rfl
    | some o => exact absurd (Heap.lt_size e) (Nat.lt_irrefl _)
  have hIG : G.get? s.heap.objs.size = none := by
    cases e : G.get? s.heap.objs.size with
    | none => rfl
    | some o => rw [F.keep _ _ e] at hI; cases hI
  have lt : ∀ p ∈ news₀, @LT.lt Nat _ p.1 s.heap.objs.size := fun p hp => Heap.lt_size (N p hp).1
  have main : ∀ (o : Obj) (St : Nat → Heap → Prop), Walks prog w A s.heap.objs.size [s.heap.objs.size] [s.heap.objs.size] xs.cps.size (SignAt xs) St → (∀ i h, St i h → ∃ o, h.get? s.heap.objs.size = some o) → St 0 (s.heap.push o) →
      LoopAtV prog w A G env x body Q E (.ref s.heap.objs.size) { s with heap := s.heap.push o } := by
    intro o St W al hst
    refine loop_gen (rest := []) (s := { s with heap := s.heap.push o }) W al hIG (Nat.ne_of_lt F.ns.lt) (fun _ hb => nomatch hb) hst (F.push o) (fun p hp => ⟨Heap.get?_push_of_some _ (N p hp).1, (N p hp).2⟩) (fun p hp => Nat.ne_of_lt (lt p hp)) Inv h0 ?_ done
    rintro i v m news h tk oI hi ⟨c, u, hc, rfl⟩ hinv off F' N'
    exact turn i c u m news h tk _ oI hc hinv off lt F' N'
  cases ha : xs.cps.all (· < 128)
  · exact wpAny_pyIter_wide ha (main _ _ (Walks.strWide hh _ xs t) (fun i h ⟨o, ho, _⟩ => ⟨o, ho⟩) ⟨_, Heap.get?_push_size _ rfl, rfl, rfl⟩)
  · exact wpAny_pyIter_ascii ha (main _ _ (Walks.strAscii hh _ xs t) (fun i h ⟨o, ho, _⟩ => ⟨o, ho⟩) ⟨_, Heap.get?_push_size _ rfl, rfl, rfl⟩)
end

section
theorem lit_A : Str.ofString "A" = ⟨#[65]⟩ := by decide +kernel
theorem lit_Z : Str.ofString "Z" = ⟨#[90]⟩ := by decide +kernel
theorem lit_pc : Str.ofString "%" = ⟨#[37]⟩ := by decide +kernel
theorem lit_us : Str.ofString "_" = ⟨#[95]⟩ := by decide +kernel
theorem lit_star : Str.ofString "*" = ⟨#[42]⟩ := by decide +kernel
theorem lit_q : Str.ofString "?" = ⟨#[63]⟩ := by decide +kernel
theorem lit_lb : Str.ofString "[" = ⟨#[91]⟩ := by decide +kernel
theorem lit_rb : Str.ofString "]" = ⟨#[93]⟩ := by decide +kernel
theorem lit_mi : Str.ofString "-" = ⟨#[45]⟩ := by decide +kernel
theorem lit_hat : Str.ofString "^" = ⟨#[94]⟩ := by decide +kernel
theorem lit_bs : Str.ofString "\\" = ⟨#[92]⟩ := by decide +kernel
theorem lit_a : Str.ofString "a" = ⟨#[97]⟩ := by decide +kernel
theorem lit_e : Str.ofString "" = ⟨#[]⟩ := by decide +kernel
theorem lit_many : Str.ofString "many" = ⟨#[109, 97, 110, 121]⟩ := by decide +kernel
theorem lit_one : Str.ofString "one" = ⟨#[111, 110, 101]⟩ := by decide +kernel

theorem le_sign {prog : Program} {w : World} {A : Around} {E : Value → Shared → Prop} {s : Shared} {x y : Str} {t u : Tok} {a b : Nat} {Q : Value → Shared → Prop} (hx : x = ⟨#[a]⟩) (hy : y = ⟨#[b]⟩) (h : Q (.bool (decide (a ≤ b))) s) :
    wpAny (model prog w) A (compareOp .LtE (.str x t) (.str y u)) Q E s := by
  refine P.le_str ?_
  have e : (!decide (y.cps.toList < x.cps.toList)) = decide (a ≤ b) := by
    subst hx hy
    rw [show (decide ((⟨#[b]⟩ : Str).cps.toList < (⟨#[a]⟩ : Str).cps.toList)) = decide (b < a) from by
      apply decide_eq_decide.mpr
      show [b] < [a] ↔ b < a
      simp [List.cons_lt_cons_iff]]
    by_cases h : a ≤ b
    · simp [h]
    · simp [h]; omega
  rw [e]; exact h

def foldC (c : Nat) : Nat := if 65 ≤ c ∧ c ≤ 90 then c + 32 else c
theorem strsAre_snoc {vs : List Value} {xs : List Str} {y : Str} {t : Tok} (h : StrsAre vs xs) : StrsAre (vs ++ [.str y t]) (xs ++ [y]) := StrsAre.append' h (.cons _ _ .nil)
theorem join_signs (l : List Nat) : Str.join ⟨#[]⟩ (l.map fun c => ⟨#[c]⟩) = ⟨l.toArray⟩ := join_nil_signs ⟨l.toArray⟩
theorem join_chars {prog : Program} {w : World} {A : Around} {E : Value → Shared → Prop} {s : Shared} {t : Tok} {Q : Value → Shared → Prop} {G : Heap} {L D : Addr} {news : List (Addr × Obj)} {vs : List Value} {n : Nat} (f : Nat → Nat) (l : List Nat)
    (N : News G L s.heap news) (hm : (D, listOf vs.toArray n) ∈ news) (hi : StrsAre vs (l.map fun c => ⟨#[f c]⟩)) (hl : l.length ≤ 1000) {sep : Str} (hsep : sep = ⟨#[]⟩)
    (h : ∀ t' k, Q (.str ⟨(l.map f).toArray⟩ t') { s with toks := k }) : wpAny (model prog w) A (call (.builtin "str.join") [.str sep t, .ref D]) Q E s := by
  subst hsep
  refine join_list (N.isList hm) (by simpa using hi) ?_ (fun t' k => ?_)
  · have e : ∀ l : List Nat, ((l.map fun c => (⟨#[f c]⟩ : Str)).map (·.length)).sum = l.length := by
      intro l
      induction l with
      | nil => rfl
      | cons a r ih =>
        simp only [List.map_cons, List.sum_cons, List.length_cons]
        rw [ih]
        show 1 + r.length = r.length + 1
        omega
    rw [e]
    simp only [Str.length]
    simp
    omega
  · have e : Txt.join ⟨#[]⟩ (l.map fun c => (⟨#[f c]⟩ : Str)) = ⟨(l.map f).toArray⟩ := by
      have := join_signs (l.map f)
      rw [List.map_map] at this
      rw [← this]
      exact eq_of_beq (join_closes rfl)
    rw [e]
    exact h t' k
theorem iteD_pos {p : Prop} [Decidable p] {a b : Prop} (hp : p) (h : a) : if decide p = true then a else b := by rw [if_pos (decide_eq_true hp)]; exact h
theorem iteD_neg {p : Prop} [Decidable p] {a b : Prop} (hp : ¬ p) (h : b) : if decide p = true then a else b := by rw [if_neg (by rw [decide_eq_false hp]; exact Bool.false_ne_true)]; exact h
theorem iteE_pos {i j : Int} {a b : Prop} (hp : i = j) (h : a) : if (i == j) = true then a else b := by rw [if_pos (beq_iff_eq.mpr hp)]; exact h
theorem iteE_neg {i j : Int} {a b : Prop} (hp : ¬ i = j) (h : b) : if (i == j) = true then a else b := by rw [if_neg (fun q => hp (beq_iff_eq.mp q))]; exact h
theorem iteB_pos {c : Bool} {a b : Prop} (hc : c = true) (h : a) : if c = true then a else b := by rw [if_pos hc]; exact h
theorem iteB_neg {c : Bool} {a b : Prop} (hc : c = false) (h : b) : if c = true then a else b := by rw [if_neg (by rw [hc]; exact Bool.false_ne_true)]; exact h
end
local macro_rules | `(tactic| k_room) => `(tactic| exact Ok.room (by assumption))
local macro_rules | `(tactic| k_all) => `(tactic| assumption)
local macro_rules | `(tactic| walk_at "ENTERP") => `(tactic| (
  (case k1 => assumption); (case k2 => k_room); (case k3 => k_is); (case k4 => k_is); (case k5 => first | exact BindsTo.of_eq rfl | exact binds_K (by k_in) rfl (by k_is) rfl rfl rfl); (case k6 => exact locs rfl);
  (case c1 => exact rfl); (case c2 => exact rfl); (case c3 => exact rfl); (case c4 => decide); k_whole))
local macro_rules | `(tactic| size_fits) => `(tactic| ((try simp only [List.size_toArray, Array.size_push, List.length_append, List.length_cons, List.length_nil]); rw [sizeLine_eq]; omega))
local macro_rules | `(tactic| walk_at "LIT") => `(tactic| first | exact rfl | exact lit_A | exact lit_Z | exact lit_pc | exact lit_us | exact lit_star | exact lit_q | exact lit_lb | exact lit_rb | exact lit_mi | exact lit_hat | exact lit_bs | exact lit_a)
local macro_rules | `(tactic| walk_at "compareOp LtE str str") => `(tactic| (k_here; refine le_sign (by walk_at "LIT") (by walk_at "LIT") ?_))
local macro_rules | `(tactic| walk_at "subscriptTail") => `(tactic| first | ((with_reducible show wpAny _ _ (subscriptTail _ _ (Value.ref _) _) _ _ _); walk_at "SUBR") | ((with_reducible show wpAny _ _ (subscriptTail _ _ (Value.str _ _) _) _ _ _); walk_at "SUBS"))
local macro_rules | `(tactic| walk_at "subscriptTail Name Name ref int") => `(tactic| walk_at "SUBR")
local macro_rules | `(tactic| walk_at "subscriptTail Name BinOp ref int") => `(tactic| walk_at "SUBR")
local macro_rules | `(tactic| walk_at "subscriptTail Name Name str int") => `(tactic| walk_at "SUBS")
local macro_rules | `(tactic| walk_at "subscriptTail Name BinOp str int") => `(tactic| walk_at "SUBS")
local macro_rules | `(tactic| walk_at "ite") => `(tactic| first | refine iteD_pos (by omega) ?_ | refine iteD_neg (by omega) ?_ | refine iteE_pos (by omega) ?_ | refine iteE_neg (by omega) ?_ | refine iteB_pos (by assumption) ?_ | refine iteB_neg (by assumption) ?_)
local macro_rules | `(tactic| walk_at "ENTERS") => `(tactic| ((case k1 => assumption); (case k1b => assumption); (case k1c => assumption); (case k1d => assumption); (case k2 => k_room); (case k3 => k_is); (case k4 => k_is); (case k5 => first | exact BindsTo.of_eq rfl | exact binds_K (by k_in) rfl (by k_is) rfl rfl rfl); (case k6 => exact locs rfl); (case c1 => exact rfl); (case c2 => exact rfl); (case c3 => exact rfl); (case c4 => decide); k_whole))
local macro_rules | `(tactic| walk_at "MULOK") => `(tactic| first | exact PySem.IntMulOk.of_right (by decide) | exact PySem.IntMulOk.of_left (by decide) | exact PySem.IntMulOk.of_right (PySem.intBits_le_64 (by omega) (by omega)) | exact PySem.IntMulOk.of_left (PySem.intBits_le_64 (by omega) (by omega)) | exact PySem.IntMulOk.of_right (PySem.intBits_le_64 (by split <;> decide) (by split <;> decide)))
local macro_rules | `(tactic| walk_at "binaryOp Mult int int") => `(tactic| (k_here; refine PyProof.Rows.mul_int ?_ (by walk_at "MULOK")))
local macro_rules | `(tactic| walk_at "unpackItems ref") => `(tactic| (k_here; k_dflt (refine' unpackItemsN_ ?k1 ?k2 ?k3 ?k4 ?k5 ?_; (case k1 => k_asm); (case k2 => k_asm); (case k3 => kun_tup); (case k4 => (obtain ⟨okh9, _⟩ := ‹Ok _ _›; exact okh9)); (case k5 => exact rfl); k_whole); intro h' F' N'; (try k_sweep)))
local macro_rules | `(tactic| walk_at "call builtin:list.append") => `(tactic| (k_here; k_dflt (refine' append_K ?k1 ?k2 ?k3 ?_ ?z; (case k1 => k_asm); (case k2 => k_asm); (case k3 => k_upd); (case z => size_fits); k_whole); intro h' F' N'; (try k_sweep)))
local macro_rules | `(tactic| walk_at "CJ") => `(tactic| first | with_reducible assumption | exact And.left (by with_reducible assumption) | exact And.right (by with_reducible assumption) | exact And.left (And.right (by with_reducible assumption)) | exact And.right (And.right (by with_reducible assumption)) | exact And.left (And.right (And.right (by with_reducible assumption))) | fail "cj")
local macro_rules | `(tactic| k_ne) => `(tactic| ((with_reducible refine neN ?_); (try dsimp only); (first | with_reducible assumption | (refine Nat.ne_of_gt ?_; walk_at "CJ") | (refine Nat.ne_of_lt ?_; walk_at "CJ") | exact Ne.symm (by with_reducible assumption) | fail "ne")))
local macro_rules | `(tactic| walk_at "execs cons") => `(tactic| (k_here; (with_reducible refine wpAny_execs_cons ?_); (try dsimp only); (try k_fold)))
local macro_rules | `(tactic| walk_at "execs cons") => `(tactic| (k_here; k_gentoks))
local macro_rules | `(tactic| walk_at "execs cons") => `(tactic| (k_here; k_fold))
section
theorem foldA_spec {w : World} {A : Around} {s : Shared} {x : Str} {t : Tok} (hx : x.cps.size ≤ 1000) (am : Amb w s.heap) (ok : Ok 1 A) {Q : Value → Shared → Prop} {E : Value → Shared → Prop}
  (ret : ∀ h' tk t', Sub s.heap h' → Q (.str ⟨(x.cps.toList.map foldC).toArray⟩ t') { s with heap := h', toks := tk }) :
    wpAny (model PySem.Challenge.rw_nt0095_01.row.prog w) A (call (.ref 53) [.str x t] []) Q E s := by
  refine wpAny_noRaise ?_
  have X := am.X
  obtain ⟨p, l, mg, mb, T⟩ := am.T
  refine' enterP (binds := [(Str.ofString "text", .str x t)]) ?k1 ?k2 ?k3 ?k4 ?k5 ?k6 ?_ ?c1 ?c2 ?c3 ?c4
  walk_at "ENTERP"
  intro L h₁ hL F N
  (try k_fold)
  k_steps
  rename_i a h2 hl1 h3 F N
  refine forF s.heap rfl rfl ?_
  (try k_fold)
  k_steps
  refine loop_str ok.1 F N (fun i m news => ∃ vs n, news = [(a, listOf vs.toArray n)] ∧ StrsAre vs ((x.cps.toList.take i).map fun c => ⟨#[foldC c]⟩) ∧ vs.length ≤ i ∧ m (Str.ofString "signs") = some (.ref a)) ⟨[], 0, rfl, by simpa using StrsAre.nil, Nat.le_refl _, rfl⟩ ?_ ?_
  · rintro i c u m news h tk I oI hc ⟨vs, n, rfl, hvs, hl, hm⟩ hoff hlt F N
    clear hl1
    have hIa : @LT.lt Nat _ a I := hlt (a, _) (.head _)
    have hi : i < x.cps.size := (Array.getElem?_eq_some_iff.mp hc).1
    have hm2 : (fun y => if y = Str.ofString "sign" then some (Value.str ⟨#[c]⟩ u) else m y) (Str.ofString "signs") = some (.ref a) := hm
    have F := frSet F hm2
    have htake : x.cps.toList.take (i + 1) = x.cps.toList.take i ++ [c] := by
      rw [List.take_add_one]
      have : x.cps.toList[i]? = some c := by rw [Array.getElem?_toList]; exact hc
      rw [this]; rfl
    (try k_fold)
    k_steps
    · (rename Fr _ _ _ _ => F'); (rename News _ _ _ _ => N')
      rw [List.push_toArray] at N'
      have e : foldC c = ((c : Int) + 32).toNat := by unfold foldC; rw [if_pos (by omega)]; omega
      exact ⟨_, _, _, _, rfl, F', N', fun p hp => by rcases List.mem_singleton.mp hp with rfl; exact Nat.ne_of_lt hIa, _, _, rfl, by rw [htake, List.map_append, List.map_singleton, e]; exact strsAre_snoc hvs, by simp; omega, rfl⟩
    · (rename Fr _ _ _ _ => F'); (rename News _ _ _ _ => N')
      rw [List.push_toArray] at N'
      have e : foldC c = c := by unfold foldC; rw [if_neg (by omega)]
      exact ⟨_, _, _, _, rfl, F', N', fun p hp => by rcases List.mem_singleton.mp hp with rfl; exact Nat.ne_of_lt hIa, _, _, rfl, by rw [htake, List.map_append, List.map_singleton, e]; exact strsAre_snoc hvs, by simp; omega, rfl⟩
    · (rename Fr _ _ _ _ => F'); (rename News _ _ _ _ => N')
      rw [List.push_toArray] at N'
      have e : foldC c = c := by unfold foldC; rw [if_neg (by omega)]
      exact ⟨_, _, _, _, rfl, F', N', fun p hp => by rcases List.mem_singleton.mp hp with rfl; exact Nat.ne_of_lt hIa, _, _, rfl, by rw [htake, List.map_append, List.map_singleton, e]; exact strsAre_snoc hvs, by simp; omega, rfl⟩
  · rintro m news h tk ⟨vs, n, rfl, hvs, hl, hm⟩ F N
    have F := frSet F hm
    have htake : x.cps.toList.take x.cps.size = x.cps.toList := List.take_of_length_le (by simp)
    rw [htake] at hvs
    (try k_fold)
    k_steps
    refine join_chars foldC x.cps.toList N (.head _) hvs (by simpa using hx) lit_e (fun t' k => ?_)
    exact ret h _ _ F.keep
end
section
section
variable {w : World} {A : Around} {s : Shared} {name qual : Str} {params : Arguments} {body : List Stmt} {scope : Scope} {dV kV doc pm cdv ct oc : Value} {an od : Option Addr} {osl : Array (Option Value)} {f : Addr} {pos : List Value} {kw : List (Str × Value)} {binds : List (Str × Value)}
/-- into a def's body, as code; it never raises -/
theorem enterC {G : Heap} {news : List (Addr × Obj)} {R : Result → Shared → Prop}
    (am : Amb w G) (hG : Sub G s.heap) (hz : G.objs.size ≤ s.heap.objs.size) (N : ∀ p ∈ news, s.heap.get? p.1 = some p.2 ∧ G.get? p.1 = none)
    (hroom : A.depth < recursionLimit)
    (ho : (hd.heap_39 w.params).lookup f = some ⟨oc, od, .func (fnOf name qual params body scope dV kV doc pm an cdv ct), osl⟩) (hcd : codeIn (hd.heap_39 w.params) cdv qual = true)
    (hbind : BindsTo s (fnOf name qual params body scope dV kV doc pm an cdv ct) ⟨pos, kw⟩ binds) (hloc : ∀ y ∈ binds, scope.names.lookup y.1 = some .local)
    (h : ∀ L h₁, L = s.heap.objs.size → Fr G L h₁ (fun y => binds.reverse.lookup y) → News G L h₁ news →
      wpAny (model PySem.Challenge.rw_nt0095_01.row.prog w) (A.deeper (envOf qual scope L f cdv)) (execs body (envOf qual scope L f cdv))
        (fun fl s' => R (.ok (.ret (match fl with | .ret v => v | _ => .none))) s') (fun _ _ => False)
        { s with heap := h₁, toks := s.toks + binds.length })
    (hco : scope.isCoroutine = false := by rfl) (hgen : scope.isGenerator = false := by rfl) (hk : scope.kind = .function := by rfl)
    (hcell : ∀ x ∈ scope.names, x.2 ≠ .cell := by decide) :
    codeAny (model PySem.Challenge.rw_nt0095_01.row.prog w) A (.call (.ref f) ⟨pos, kw⟩) R s := by
  obtain ⟨p, l, mg, mb, T⟩ := am.T
  refine codeAny_call_def (fd := fnOf name qual params body scope dV kV doc pm an cdv ct) (body := body) (binds := binds) hroom (hG _ _ (am.X _ _ ho)) rfl (T.nolimit.keeps hG) (codeRec_of (am.X.keeps hG) hcd) rfl hbind hcell hloc (fun h₁ hns hk₁ => ?_) hco hgen hk
  refine wpAny_mono (h s.heap.objs.size h₁ rfl ⟨hns, fun b o e => hk₁ b o (hG b o e), hz⟩ (fun p hp => ⟨hk₁ _ _ (N p hp).1, Nat.ne_of_lt (Heap.lt_size (N p hp).1), (N p hp).2⟩)) (fun fl s' q => q) fun _ _ q => q.elim
end

theorem regain {G h' h'' : Heap} {L : Addr} {m : Str → Option Value} {as : List Addr} {news : List (Addr × Obj)} (F : Fr G L h' m) (N : News G L h' news) (hL : L ∉ as) (hG : ∀ a ∈ as, G.get? a = none) (off : ∀ p ∈ news, p.1 ∉ as)
    (k : Sub (hideAll h' as) h'') : Fr G L h'' m ∧ News G L h'' news := by
  obtain ⟨oL, es, ep, hn, r⟩ := F.ns
  refine ⟨⟨⟨oL, es, ep, k _ _ (hideAll_get _ hn hL), r⟩, fun b o e => ?_, F.above⟩, fun p hp => ⟨k _ _ (hideAll_get _ (N p hp).1 (off p hp)), (N p hp).2⟩⟩
  refine k _ _ (hideAll_get _ (F.keep b o e) fun hb => ?_)
  rw [hG b hb] at e; cases e
theorem hide_sub (h : Heap) (as : List Addr) : Sub (hideAll h as) h := fun _ _ e => of_hideAll as e
theorem amb_hide {w : World} {G h : Heap} {as : List Addr} (am : Amb w G) (hs : Sub G h) (hG : ∀ a ∈ as, G.get? a = none) : Amb w (hideAll h as) :=
  am.up fun b o e => hideAll_get _ (hs b o e) fun hb => by rw [hG b hb] at e; cases e

def partDict (w : World) (k s r n : Value) (t1 t2 t3 t4 : Tok) : Obj :=
  dictOf [⟨PyData.keyHash w.params (Str.ofString "kind"), .str (Str.ofString "kind") t1, k⟩, ⟨PyData.keyHash w.params (Str.ofString "sign"), .str (Str.ofString "sign") t2, s⟩,
    ⟨PyData.keyHash w.params (Str.ofString "ranges"), .str (Str.ofString "ranges") t3, r⟩, ⟨PyData.keyHash w.params (Str.ofString "negated"), .str (Str.ofString "negated") t4, n⟩] 4
end
section
theorem part_make {w : World} {A : Around} {s : Shared} {G : Heap} {L : Addr} {m : Str → Option Value} {news : List (Addr × Obj)} {pos : List Value} {kv sv rv nv : Value} (am : Amb w G) (ok : Ok 1 A) (F : Fr G L s.heap m) (N : News G L s.heap news) {Q : Value → Shared → Prop} {E : Value → Shared → Prop}
    (hb : (pos = [kv] ∧ sv = .none ∧ rv = .none ∧ nv = .bool false) ∨ (pos = [kv, sv] ∧ rv = .none ∧ nv = .bool false) ∨ pos = [kv, sv, rv, nv])
    (ret : ∀ x dx h' tk t1 t2 t3 t4, Fr G L h' m → News G L h' ((x, instObj 78 dx) :: (dx, partDict w kv sv rv nv t1 t2 t3 t4) :: news) → (∀ p ∈ news, @LT.lt Nat _ p.1 dx) → @LT.lt Nat _ dx x → Q (.ref x) { s with heap := h', toks := tk }) :
    wpAny (model PySem.Challenge.rw_nt0095_01.row.prog w) A (call (.ref 78) pos []) Q E s := by
  refine wpAny_noRaise ?_
  have X := am.X
  obtain ⟨p, l, mg, mb, T⟩ := am.T
  refine wpAny_call (make_K (C := 78) (fI := 68) F N (X.keeps F.keep) (by k_is) (by k_is) (by k_is) ?_)
  intro x dx h' F' N' hlt hxd
  replace hxd := ltN hxd
  have hxG : G.get? x = none := (N' _ (.head _)).2.2
  have hdG : G.get? dx = none := (N' _ (.tail _ (.head _))).2.2
  have hG2 : ∀ a ∈ [x, dx], G.get? a = none := by
    intro a ha
    rcases List.mem_cons.mp ha with rfl | ha
    · exact hxG
    · rw [List.mem_singleton.mp ha]; exact hdG
  have am2 : Amb w (hideAll h' [x, dx]) := amb_hide am F'.keep hG2
  have offn : ∀ p ∈ news, p.1 ∉ [x, dx] := by
    intro p hp hb
    have h1 := hlt p hp
    rcases List.mem_cons.mp hb with e | e
    · rw [e] at h1; exact Nat.lt_asymm hxd h1
    · have h2 := List.mem_singleton.mp e; rw [h2] at h1; exact Nat.lt_irrefl _ h1
  have hLx : L ∉ [x, dx] := by
    intro hb
    rcases List.mem_cons.mp hb with e | e
    · exact (N' _ (.head _)).2.1 e.symm
    · exact (N' _ (.tail _ (.head _))).2.1 (List.mem_singleton.mp e).symm
  have hx1 := (N' _ (.head _)).1
  have hd1 := (N' _ (.tail _ (.head _))).1
  have Nn : News G L h' news := fun p hp => N' p (.tail _ (.tail _ hp))
  clear N'
  refine' enterC (G := hideAll h' [x, dx]) (news := [(x, instObj 78 dx), (dx, dictOf [] 0)]) (binds := [(Str.ofString "self", .ref x), (Str.ofString "kind", kv), (Str.ofString "sign", sv), (Str.ofString "ranges", rv), (Str.ofString "negated", nv)])
    am2 (hide_sub _ _) (Nat.le_of_eq (hideAll_size _ _)) ?kN ?k2 ?k3 ?k4 ?k5 ?k6 ?_ ?c1 ?c2 ?c3 ?c4
  case kN =>
    intro p hp
    rcases List.mem_cons.mp hp with rfl | hp
    · exact ⟨hx1, hideAll_none _ (.head _)⟩
    · rw [List.mem_singleton.mp hp]; exact ⟨hd1, hideAll_none _ (.tail _ (.head _))⟩
  case k2 => have := ok.2.1; simp only [depth_under_kw, recursionLimit]; omega
  case k3 => k_is
  case k4 => k_is
  case k5 =>
    rcases hb with ⟨rfl, rfl, rfl, rfl⟩ | ⟨rfl, rfl, rfl⟩ | rfl
    · exact binds_K (K := hd.heap_39 w.params) (X.keeps F'.keep) rfl (by k_is) rfl rfl rfl
    · exact binds_K (K := hd.heap_39 w.params) (X.keeps F'.keep) rfl (by k_is) rfl rfl rfl
    · exact binds_K (K := hd.heap_39 w.params) (X.keeps F'.keep) rfl (by k_is) rfl rfl rfl
  case k6 => exact locs rfl
  case c1 => exact rfl
  case c2 => exact rfl
  case c3 => exact rfl
  case c4 => decide
  clear hb
  intro L2 h2 hL2 F2 N2
  have X2 := am2.X
  obtain ⟨p2, l2, mg2, mb2, T2⟩ := am2.T
  clear X T
  (try k_fold)
  k_steps
  (rename Fr _ _ _ _ => F3); (rename News _ _ _ _ => N3)
  obtain ⟨F4, N4⟩ := regain F' Nn hLx hG2 offn F3.keep
  obtain ⟨t1, t2, t3, t4, hd5⟩ : ∃ t1 t2 t3 t4, _ = some (partDict w kv sv rv nv t1 t2 t3 t4) := ⟨_, _, _, _, (N3 _ (.tail _ (.head _))).1⟩
  refine ⟨rfl, ret x dx _ _ t1 t2 t3 t4 F4 ?_ hlt hxd⟩
  intro p hp
  rcases List.mem_cons.mp hp with rfl | hp
  · exact ⟨(N3 _ (.head _)).1, fun e => hLx (by rw [← e]; exact .head _), hxG⟩
  · rcases List.mem_cons.mp hp with rfl | hp
    · exact ⟨hd5, fun e => hLx (by rw [← e]; exact .tail _ (.head _)), hdG⟩
    · exact N4 p hp
end
section
inductive All2 {α β : Type} (R : α → β → Prop) : List α → List β → Prop
  | nil : All2 R [] []
  | cons {a b as bs} : R a b → All2 R as bs → All2 R (a :: as) (b :: bs)
theorem All2.mono {α β : Type} {R S : α → β → Prop} (h : ∀ a b, R a b → S a b) {as : List α} {bs : List β} (x : All2 R as bs) : All2 S as bs := by
  induction x with
  | nil => exact .nil
  | cons r _ ih => exact .cons (h _ _ r) ih
theorem All2.snoc {α β : Type} {R : α → β → Prop} {as : List α} {bs : List β} {a : α} {b : β} (x : All2 R as bs) (r : R a b) : All2 R (as ++ [a]) (bs ++ [b]) := by
  induction x with
  | nil => exact .cons r .nil
  | cons r' _ ih => exact .cons r' ih
theorem All2.length {α β : Type} {R : α → β → Prop} {as : List α} {bs : List β} (x : All2 R as bs) : as.length = bs.length := by
  induction x with
  | nil => rfl
  | cons _ _ ih => simp [ih]
theorem All2.get {α β : Type} {R : α → β → Prop} {as : List α} {bs : List β} (x : All2 R as bs) : ∀ (i : Nat) (b : β), bs[i]? = some b → ∃ a, as[i]? = some a ∧ R a b := by
  induction x with
  | nil => intro i b h; simp at h
  | cons r _ ih =>
    intro i b h
    cases i with
    | zero => simp at h; subst h; exact ⟨_, by simp, r⟩
    | succ i => simp at h; obtain ⟨a, h1, h2⟩ := ih i b h; exact ⟨a, by simpa using h1, h2⟩
theorem All2.getL {α β : Type} {R : α → β → Prop} {as : List α} {bs : List β} (x : All2 R as bs) : ∀ (i : Nat) (a : α), as[i]? = some a → ∃ b, bs[i]? = some b ∧ R a b := by
  induction x with
  | nil => intro i b h; simp at h
  | cons r _ ih =>
    intro i b h
    cases i with
    | zero => simp at h; subst h; exact ⟨_, by simp, r⟩
    | succ i => simp at h; obtain ⟨a, h1, h2⟩ := ih i b h; exact ⟨a, by simpa using h1, h2⟩

abbrev Led := List (Addr × Obj)
def LSub (a b : Led) : Prop := ∀ p ∈ a, p ∈ b
abbrev tupOf (vs : List Value) (n : Nat) : Obj := { cls := .type "tuple", data := .seq vs.toArray n }

inductive PD where
  | any | one | sign (c : Nat) | lot (rs : List (Nat × Nat)) (neg : Bool)
def PairAt (tl : Led) (v : Value) (p : Nat × Nat) : Prop := ∃ T t u n, v = .ref T ∧ (T, tupOf [.str ⟨#[p.1]⟩ t, .str ⟨#[p.2]⟩ u] n) ∈ tl
def RangesAt (tl : Led) (r : Addr) (rs : List (Nat × Nat)) : Prop := ∃ vs n, (r, listOf vs.toArray n) ∈ tl ∧ All2 (PairAt tl) vs rs
def PartObj (w : World) (tl : Led) (v : Value) (k s r n : Value) : Prop := ∃ x dx t1 t2 t3 t4, v = .ref x ∧ (x, instObj 78 dx) ∈ tl ∧ (dx, partDict w k s r n t1 t2 t3 t4) ∈ tl
def PartAt (w : World) (tl : Led) (v : Value) : PD → Prop
  | .any => ∃ u, PartObj w tl v (.int 0 u) .none .none (.bool false)
  | .one => ∃ u, PartObj w tl v (.int 1 u) .none .none (.bool false)
  | .sign c => ∃ u t, PartObj w tl v (.int 2 u) (.str ⟨#[c]⟩ t) .none (.bool false)
  | .lot rs neg => ∃ u r, PartObj w tl v (.int 3 u) .none (.ref r) (.bool neg) ∧ RangesAt tl r rs
theorem PairAt.mono {a b : Led} (s : LSub a b) {v : Value} {p : Nat × Nat} : PairAt a v p → PairAt b v p := fun ⟨T, t, u, n, e, h⟩ => ⟨T, t, u, n, e, s _ h⟩
theorem RangesAt.mono {a b : Led} (s : LSub a b) {r : Addr} {rs : List (Nat × Nat)} : RangesAt a r rs → RangesAt b r rs := fun ⟨vs, n, h, x⟩ => ⟨vs, n, s _ h, x.mono fun _ _ => PairAt.mono s⟩
theorem PartObj.mono {w : World} {a b : Led} (s : LSub a b) {v k x r n : Value} : PartObj w a v k x r n → PartObj w b v k x r n := fun ⟨y, dx, t1, t2, t3, t4, e, h, h'⟩ => ⟨y, dx, t1, t2, t3, t4, e, s _ h, s _ h'⟩
theorem PartAt.mono {w : World} {a b : Led} (s : LSub a b) {v : Value} : ∀ {p : PD}, PartAt w a v p → PartAt w b v p
  | .any, ⟨u, h⟩ => ⟨u, h.mono s⟩
  | .one, ⟨u, h⟩ => ⟨u, h.mono s⟩
  | .sign _, ⟨u, t, h⟩ => ⟨u, t, h.mono s⟩
  | .lot _ _, ⟨u, r, h, q⟩ => ⟨u, r, h.mono s, q.mono s⟩

def inRanges (rs : List (Nat × Nat)) (d : Nat) : Bool := rs.any fun p => decide (p.1 ≤ d) && decide (d ≤ p.2)
def takesB : PD → Nat → Bool
  | .any, _ => false
  | .one, _ => true
  | .sign c, d => c == d
  | .lot rs neg, d => inRanges rs d != neg

section
variable {prog : Program} {w : World} {A : Around} {s : Shared} {env : Env} {G : Heap} {body : List Stmt} {Q : Flow → Shared → Prop} {m₀ : Str → Option Value} {news₀ : List (Addr × Obj)}
/-- for a, b in l: l a list of the base, its items pairs of the base -/
theorem iter_pairs (P : Nat → Value → Value → Prop) {l : Addr} {vs : List Value} {x1 x2 : Str} {p1 p2 tp : Pos} {kk} (hh : A.handled = none) (hl : G.IsList l vs.toArray)
    (hv : ∀ (i : Nat) v, vs[i]? = some v → ∃ T a b, v = .ref T ∧ IsTup G T #[a, b] ∧ P i a b)
    (hx1 : env.kindOf x1 = some .local) (hx2 : env.kindOf x2 = some .local)
    (hp : (env.scope.kind == .class || (env.scope.kind == .module && env.locals != env.globals)) = false)
    (F : Fr G env.locals s.heap m₀) (N : News G env.locals s.heap news₀)
    (Inv : Nat → (Str → Option Value) → List (Addr × Obj) → Prop) (h0 : Inv 0 m₀ news₀)
    (turn : ∀ i a b m news h tk I oI, i < vs.length → P i a b → Inv i m news → (∀ p ∈ news, p.1 ≠ I) → (∀ p ∈ news₀, @LT.lt Nat _ p.1 I) →
      Fr G env.locals h (fun y => if y = x2 then some b else if y = x1 then some a else m y) → News G env.locals h ((I, oI) :: news) →
      wpAny (model prog w) A (execs body env) (TEnd G env.locals I oI (Inv (i + 1)) s Q) (fun _ _ => False) { s with heap := h, toks := tk })
    (done : ∀ m news h tk, Inv vs.length m news → Fr G env.locals h m → News G env.locals h news → Q .next { s with heap := h, toks := tk }) :
    wpAny (model prog w) A (pyIter (.ref l)) (fun it s₂ => codeAny (model prog w) A (.forLoop (.Tuple [.Name x1 p1, .Name x2 p2] kk tp) it body [] env)
      (fun r s' => match r with | .ok f => Q f s' | .error e => cameBackBy (model prog w) A env (fun _ _ => False) e s') s₂) (fun _ _ => False) s := by
  have hls : s.heap.IsList l vs.toArray := hl.at fun o e => F.keep l o e
  obtain ⟨ol, hol, _⟩ := id hl
  have hlt : l < G.objs.size := Heap.lt_size hol
  have hne : l ≠ s.heap.objs.size := Nat.ne_of_lt (Nat.lt_trans (Nat.lt_of_lt_of_le hlt F.above) F.ns.lt)
  refine wpAny_pyIter_list hls ?_
  have W := Walks.list (prog := prog) (w := w) hh s.heap.objs.size l hne vs.toArray
  have hI : s.heap.get? s.heap.objs.size = none := by
    cases e : s.heap.get? s.heap.objs.size with
    | none => rfl
    | some o => exact absurd (Heap.lt_size e) (Nat.lt_irrefl _)
  have hIG : G.get? s.heap.objs.size = none := by
    cases e : G.get? s.heap.objs.size with
    | none => rfl
    | some o => rw [F.keep _ _ e] at hI; cases hI
  have hLI : env.locals ≠ s.heap.objs.size := Nat.ne_of_lt F.ns.lt
  generalize hIe : s.heap.objs.size = I at *
  have lt : ∀ p ∈ news₀, @LT.lt Nat _ p.1 I := fun p hp => by rw [← hIe]; exact Heap.lt_size (N p hp).1
  refine codeAny_forLoop_any
    (fun k s' => ∃ h' tk m' news' i, s' = { s with heap := h', toks := tk } ∧ (h'.IsListIter I l i ∧ h'.IsList l vs.toArray) ∧ Fr G env.locals h' m' ∧ News G env.locals h' news' ∧ (∀ p ∈ news', p.1 ≠ I) ∧ Inv i m' news' ∧ i ≤ vs.length ∧ k = vs.length + 1 - i) ?_ (vs.length + 1)
    ⟨_, _, m₀, news₀, 0, rfl, ⟨⟨_, by rw [← hIe]; exact Heap.get?_push_size _ rfl, rfl, rfl⟩, hls.at fun o e => Heap.get?_push_of_some _ e⟩, F.push _, fun p hp => ⟨Heap.get?_push_of_some _ (N p hp).1, (N p hp).2⟩, fun p hp => Nat.ne_of_lt (lt p hp), h0, Nat.zero_le _, rfl⟩
  rintro k s' ⟨h', tk, m', news', i, rfl, hst', F', N', off', hJ, hi, rfl⟩
  have next : ∀ h₁ : Heap, (∀ b o, b ∉ [I] → h'.get? b = some o → h₁.get? b = some o) → Fr G env.locals h₁ m' ∧ News G env.locals h₁ news' := fun h₁ hk₁ =>
    ⟨⟨F'.ns.at' fun o e => hk₁ _ o (fun q => hLI (List.mem_singleton.mp q)) e, fun b o e => hk₁ b o (fun q => by rw [List.mem_singleton.mp q, hIG] at e; cases e) (F'.keep b o e), F'.above⟩, fun p hp => ⟨hk₁ _ _ (fun q => off' p hp (List.mem_singleton.mp q)) (N' p hp).1, (N' p hp).2⟩⟩
  have hsz : vs.toArray.size = vs.length := by simp
  by_cases hlt' : i < vs.length
  · refine W.item i _ _ _ (by rw [hsz]; exact hlt') hst' fun v h₁ tk₁ hP hst₁ hk₁ => ?_
    have hvi : vs[i]? = some v := by simpa using hP
    obtain ⟨T, a, b, rfl, hT, hPab⟩ := hv i v hvi
    obtain ⟨F₁, N₁⟩ := next h₁ hk₁
    obtain ⟨oI, hoI, hcI⟩ := hst₁.1
    have N₁' : News G env.locals h₁ ((I, oI) :: news') := fun p hp => by
      rcases List.mem_cons.mp hp with rfl | hp
      · exact ⟨hoI, fun e => hLI e.symm, hIG⟩
      · exact N₁ p hp
    refine wpAny_letOwnedTupleGo_listiter hst₁.1 ?_
    refine unpackN_ (s := { s with heap := h₁, toks := tk₁ }) F₁ N₁' (IsTup.keeps hT F₁.keep) hh rfl rfl fun h₂ F₂ N₂ => ?_
    refine assignInOrder_cons (wpAny_assign_Name (wpAny_storeName_local hx1 F₂.ns (fun h₃ hn₃ hs₃ => ?_) hp))
    have F₃ := F₂.set hn₃ hs₃
    have N₃ := N₂.set hs₃
    refine assignInOrder_cons (wpAny_assign_Name (wpAny_storeName_local hx2 F₃.ns (fun h₄ hn₄ hs₄ => ?_) hp))
    have F₄ := F₃.set hn₄ hs₄
    have N₄ := N₃.set hs₄
    refine assignInOrder_nil ?_
    refine wpAny_mono (turn i a b m' news' h₄ _ I oI hlt' hPab hJ off' lt F₄ N₄) (fun f s₃ h₃ => ?_) fun _ _ e => e.elim
    have fin : (∃ h' tk' m' news', s₃ = { s with heap := h', toks := tk' } ∧ Fr G env.locals h' m' ∧ News G env.locals h' ((I, oI) :: news') ∧ (∀ p ∈ news', p.1 ≠ I) ∧ Inv (i + 1) m' news') →
        ∃ m, m < vs.length + 1 - i ∧ ∃ h' tk m' news' j, s₃ = { s with heap := h', toks := tk } ∧ (h'.IsListIter I l j ∧ h'.IsList l vs.toArray) ∧ Fr G env.locals h' m' ∧ News G env.locals h' news' ∧ (∀ p ∈ news', p.1 ≠ I) ∧ Inv j m' news' ∧ j ≤ vs.length ∧ m = vs.length + 1 - j := by
      rintro ⟨h5, tk5, m5, news5, rfl, F5, N5, off5, hJ5⟩
      exact ⟨_, by omega, h5, tk5, m5, news5, i + 1, rfl, ⟨⟨oI, (N5 _ (.head _)).1, hcI⟩, hl.at fun o e => F5.keep l o e⟩, F5, fun p hp => N5 p (.tail _ hp), off5, hJ5, hlt', rfl⟩
    cases f with
    | ret v => exact h₃
    | brk => exact h₃
    | next => exact fin h₃
    | cont => exact fin h₃
  · have hin : i = vs.length := by omega
    subst hin
    refine W.done _ _ _ (by rw [hsz]; exact hst') fun h₁ tk₁ hk₁ => wpAny_execs_nil ?_
    obtain ⟨F₁, N₁⟩ := next h₁ hk₁
    exact done m' news' h₁ tk₁ hJ F₁ N₁

theorem forP {iter target : Expr} {pos : Pos} (h : wpAny (model prog w) A (eval iter env) (fun xv s₁ => wpAny (model prog w) A (pyIter xv) (fun it s₂ => codeAny (model prog w) A (.forLoop target it body [] env)
      (fun r s' => match r with | .ok f => Q f s' | .error e => cameBackBy (model prog w) A env (fun _ _ => False) e s') s₂) (fun _ _ => False) s₁) (fun _ _ => False) s)
    (hs : ∀ x, foldedSetIterable iter env x = pure x := by intro _; rfl) : wpAny (model prog w) A (exec (.For target iter body [] pos) env) Q (fun _ _ => False) s := wpAny_For h hs

theorem loop_list {E : Value → Shared → Prop} {x : Str} {l : Addr} {vs : List Value} (hh : A.handled = none) (hl : G.IsList l vs.toArray) (F : Fr G env.locals s.heap m₀) (N : News G env.locals s.heap news₀)
    (Inv : Nat → (Str → Option Value) → List (Addr × Obj) → Prop) (h0 : Inv 0 m₀ news₀)
    (turn : ∀ i v m news h tk I oI, vs[i]? = some v → Inv i m news → (∀ p ∈ news, p.1 ≠ I) → (∀ p ∈ news₀, @LT.lt Nat _ p.1 I) → Fr G env.locals h (fun y => if y = x then some v else m y) → News G env.locals h ((I, oI) :: news) →
      wpAny (model prog w) A (execs body env) (TEnd G env.locals I oI (Inv (i + 1)) s Q) E { s with heap := h, toks := tk })
    (done : ∀ m news h tk, Inv vs.length m news → Fr G env.locals h m → News G env.locals h news → Q .next { s with heap := h, toks := tk }) :
    wpAny (model prog w) A (pyIter (.ref l)) (fun it s₂ => LoopAtV prog w A G env x body Q E it s₂) E s := by
  have hls : s.heap.IsList l vs.toArray := hl.at fun o e => F.keep l o e
  obtain ⟨ol, hol, _⟩ := id hl
  have hlt : l < G.objs.size := Heap.lt_size hol
  have hne : l ≠ s.heap.objs.size := Nat.ne_of_lt (Nat.lt_trans (Nat.lt_of_lt_of_le hlt F.above) F.ns.lt)
  refine wpAny_pyIter_list hls ?_
  have W := Walks.list (prog := prog) (w := w) hh s.heap.objs.size l hne vs.toArray
  have hI : s.heap.get? s.heap.objs.size = none := by
    cases e : s.heap.get? s.heap.objs.size with
    | none => rfl
    | some o => exact absurd (Heap.lt_size e) (Nat.lt_irrefl _)
  have hIG : G.get? s.heap.objs.size = none := by
    cases e : G.get? s.heap.objs.size with
    | none => rfl
    | some o => rw [F.keep _ _ e] at hI; cases hI
  have lt : ∀ p ∈ news₀, @LT.lt Nat _ p.1 s.heap.objs.size := fun p hp => Heap.lt_size (N p hp).1
  have hLl : env.locals ≠ l := by
    intro e
    have h1 := F.above
    rw [e] at h1
    exact absurd (Nat.lt_of_lt_of_le hlt h1) (Nat.lt_irrefl _)
  have hsz : vs.toArray.size = vs.length := by simp
  rw [hsz] at W
  refine loop_gen (rest := [l]) (s := { s with heap := _ }) W (fun i h hs => ⟨_, hs.1.choose_spec.1⟩) hIG (Nat.ne_of_lt F.ns.lt) (fun b hb => by rw [List.mem_singleton.mp hb]; exact ⟨⟨_, hol⟩, hLl⟩)
    ⟨⟨_, Heap.get?_push_size _ rfl, rfl, rfl⟩, hls.at fun o e => Heap.get?_push_of_some _ e⟩ (F.push _) (fun p hp => ⟨Heap.get?_push_of_some _ (N p hp).1, (N p hp).2⟩) (fun p hp => Nat.ne_of_lt (lt p hp)) Inv h0 ?_ done
  intro i v m news h tk oI hi hP hinv off F' N'
  exact turn i v m news h tk _ oI (by simpa using hP) hinv off lt F' N'

theorem loop_range {E : Value → Shared → Prop} {x : Str} {r : Addr} {n : Nat} {t₀ u₀ v₀ : Tok} {b₀ : Int} (hh : A.handled = none) (hr : IsRange s.heap r 0 b₀ 1 t₀ u₀ v₀) (hb : b₀ = (n : Int)) (hn : n < 1000) (F : Fr G env.locals s.heap m₀) (N : News G env.locals s.heap news₀)
    (Inv : Nat → (Str → Option Value) → List (Addr × Obj) → Prop) (h0 : Inv 0 m₀ news₀)
    (turn : ∀ i t m news h tk I oI, i < n → Inv i m news → (∀ p ∈ news, p.1 ≠ I) → (∀ p ∈ news₀, @LT.lt Nat _ p.1 I) → Fr G env.locals h (fun y => if y = x then some (.int (i : Int) t) else m y) → News G env.locals h ((I, oI) :: news) →
      wpAny (model prog w) A (execs body env) (TEnd G env.locals I oI (Inv (i + 1)) s Q) E { s with heap := h, toks := tk })
    (done : ∀ m news h tk, Inv n m news → Fr G env.locals h m → News G env.locals h news → Q .next { s with heap := h, toks := tk }) :
    wpAny (model prog w) A (pyIter (.ref r)) (fun it s₂ => LoopAtV prog w A G env x body Q E it s₂) E s := by
  subst hb
  have hsmall : Builtin.Range.small 0 (n : Int) 1 = true := small_one (by decide) (by decide) (by omega) (by omega)
  have hrs : Builtin.Range.rangeSize 0 (n : Int) 1 = (n : Int) := by rw [rangeSize_one]; split <;> omega
  refine wpAny_pyIter_range hr hsmall ?_
  have W : Walks prog w A s.heap.objs.size [s.heap.objs.size] [s.heap.objs.size] n (fun i v => i < n ∧ ∃ t, v = .int (0 + i * 1) t)
      (fun i h => IsRangeIter h s.heap.objs.size (0 + (i : Nat) * 1) ((n : Int) - (i : Nat)) 1) := (Walks.range hh _ 0 1 n).bound
  have hI : s.heap.get? s.heap.objs.size = none := by
    cases e : s.heap.get? s.heap.objs.size with
    | none => rfl
    | some o => exact absurd (Heap.lt_size e) (Nat.lt_irrefl _)
  have hIG : G.get? s.heap.objs.size = none := by
    cases e : G.get? s.heap.objs.size with
    | none => rfl
    | some o => rw [F.keep _ _ e] at hI; cases hI
  have lt : ∀ p ∈ news₀, @LT.lt Nat _ p.1 s.heap.objs.size := fun p hp => Heap.lt_size (N p hp).1
  refine loop_gen (rest := []) (s := { s with heap := _ }) W (fun i h hs => ⟨_, hs⟩) hIG (Nat.ne_of_lt F.ns.lt) (fun _ hb => nomatch hb)
    (by show IsRangeIter _ _ _ _ _; rw [hrs]; simpa using Heap.get?_push_size _ rfl) (F.push _) (fun p hp => ⟨Heap.get?_push_of_some _ (N p hp).1, (N p hp).2⟩) (fun p hp => Nat.ne_of_lt (lt p hp)) Inv h0 ?_ done
  rintro i v m news h tk oI hi ⟨_, t, rfl⟩ hinv off F' N'
  have e : (0 + (i : Int) * 1) = (i : Int) := by omega
  rw [e] at F'
  exact turn i t m news h tk _ oI hi hinv off lt F' N'
end
theorem inst_base {G h : Heap} {L x dx : Addr} {m : Str → Option Value} {od : Obj} (F : Fr G L h m) (hx : G.get? x = some (instObj 78 dx)) (hd : G.get? dx = some od) : InstAt h x (instObj 78 dx) 78 (some od) := ⟨F.keep _ _ hx, rfl, rfl, F.keep _ _ hd⟩
/-- all of tl stands in G -/
def Stands (G : Heap) (tl : Led) : Prop := ∀ p ∈ tl, G.get? p.1 = some p.2
theorem Stands.up {G G' : Heap} {tl : Led} (h : Stands G tl) (k : Sub G G') : Stands G' tl := fun p hp => k _ _ (h p hp)
end
local macro_rules | `(tactic| k_inst) => `(tactic| exact inst_base (by k_asm) (by assumption) (by assumption))
local macro_rules | `(tactic| walk_at "call ref") => `(tactic| (k_here; (rename Fr _ _ _ _ => F9); (rename News _ _ _ _ => N9); (k_dflt (refine' part_make ?am ?ok F9 N9 ?hb ?_; (case am => assumption); (case ok => (refine Ok.le (Ok.deep ‹Ok _ _› _) ?_; decide)); (case hb => first | exact .inl ⟨rfl, rfl, rfl, rfl⟩ | exact .inr (.inl ⟨rfl, rfl, rfl⟩) | exact .inr (.inr rfl)))); clear F9 N9; intro x' d' h' tk' t1' t2' t3' t4' F' N' l1 l2; (try k_lt l1); (try k_lt2 l2)))
section
theorem takes_spec {w : World} {A : Around} {s : Shared} {tl : Led} {v : Value} {pd : PD} {d : Nat} {t : Tok} (am : Amb w s.heap) (ok : Ok 1 A) (hs : Stands s.heap tl) (hp : PartAt w tl v pd) (hne : pd ≠ .any) {Q : Value → Shared → Prop} {E : Value → Shared → Prop}
  (ret : ∀ h' tk, Sub s.heap h' → Q (.bool (takesB pd d)) { s with heap := h', toks := tk }) :
    wpAny (model PySem.Challenge.rw_nt0095_01.row.prog w) A (call (.ref 75) [v, .str ⟨#[d]⟩ t] []) Q E s := by
  refine wpAny_noRaise ?_
  have X := am.X
  obtain ⟨p, l, mg, mb, T⟩ := am.T
  have hk : ∃ k kt sv rv nv, PartObj w tl v (.int k kt) sv rv nv := by
    cases pd with
    | any => exact absurd rfl hne
    | one => obtain ⟨u, h⟩ := hp; exact ⟨_, _, _, _, _, h⟩
    | sign c => obtain ⟨u, t, h⟩ := hp; exact ⟨_, _, _, _, _, h⟩
    | lot rs neg => obtain ⟨u, r, h, _⟩ := hp; exact ⟨_, _, _, _, _, h⟩
  cases pd with
  | any => exact absurd rfl hne
  | one =>
    obtain ⟨u, x, dx, t1, t2, t3, t4, rfl, h1, h2⟩ := hp
    have hx := hs _ h1
    have hd := hs _ h2
    refine' enterP (binds := [(Str.ofString "self", .ref x), (Str.ofString "sign", .str ⟨#[d]⟩ t)]) ?k1 ?k2 ?k3 ?k4 ?k5 ?k6 ?_ ?c1 ?c2 ?c3 ?c4
    walk_at "ENTERP"
    intro L h₁ hL F N
    (try k_fold)
    k_steps
    exact ret _ _ F.keep
  | sign c =>
    obtain ⟨u, t', x, dx, t1, t2, t3, t4, rfl, h1, h2⟩ := hp
    have hx := hs _ h1
    have hd := hs _ h2
    refine' enterP (binds := [(Str.ofString "self", .ref x), (Str.ofString "sign", .str ⟨#[d]⟩ t)]) ?k1 ?k2 ?k3 ?k4 ?k5 ?k6 ?_ ?c1 ?c2 ?c3 ?c4
    walk_at "ENTERP"
    intro L h₁ hL F N
    (try k_fold)
    k_steps
    have e : ((⟨#[c]⟩ : Str) == ⟨#[d]⟩) = takesB (.sign c) d := by
      show decide _ = (c == d)
      by_cases h : c = d
      · subst h; simp
      · rw [beq_eq_false_iff_ne.mpr h]; exact decide_eq_false fun q => h (by injection q with q; simpa using q)
    have this := fun tk => ret h₁ tk F.keep
    rw [← e] at this
    exact this _
  | lot rs neg =>
    obtain ⟨u, r, ⟨x, dx, t1, t2, t3, t4, rfl, h1, h2⟩, vs, n, h3, hvs⟩ := hp
    have hx := hs _ h1
    have hd := hs _ h2
    refine' enterP (binds := [(Str.ofString "self", .ref x), (Str.ofString "sign", .str ⟨#[d]⟩ t)]) ?k1 ?k2 ?k3 ?k4 ?k5 ?k6 ?_ ?c1 ?c2 ?c3 ?c4
    walk_at "ENTERP"
    intro L h₁ hL F N
    (try k_fold)
    k_steps
    (rename Fr _ _ _ _ => F2); (rename News _ _ _ _ => N2)
    refine forP ?_
    (try k_fold)
    k_steps
    have hlist : s.heap.IsList r vs.toArray := ⟨_, hs _ h3, rfl, _, rfl⟩
    refine iter_pairs (fun i a b => ∃ pr t u, rs[i]? = some pr ∧ a = .str ⟨#[pr.1]⟩ t ∧ b = .str ⟨#[pr.2]⟩ u) ok.1 hlist ?_ rfl rfl rfl F2 N2
      (fun i m news => news = [] ∧ m (Str.ofString "inside") = some (.bool (inRanges (rs.take i) d)) ∧ m (Str.ofString "self") = some (.ref x) ∧ m (Str.ofString "sign") = some (.str ⟨#[d]⟩ t)) ⟨rfl, rfl, rfl, rfl⟩ ?_ ?_
    · intro i v hv
      obtain ⟨pr, hpr, T, t, u, n, rfl, hm⟩ := hvs.getL i v hv
      exact ⟨T, _, _, rfl, ⟨_, hs _ hm, rfl, _, rfl⟩, pr, t, u, hpr, rfl, rfl⟩
    · rintro i a b m news h tk I oI hi ⟨pr, ta, tb, hpr, rfl, rfl⟩ ⟨rfl, hm1, hm2, hm3⟩ hoff hlt F3 N3
      have F4 := frSet (frSet (frSet F3 (x := Str.ofString "inside") (v := .bool (inRanges (rs.take i) d)) hm1) (x := Str.ofString "self") (v := .ref x) hm2) (x := Str.ofString "sign") (v := .str ⟨#[d]⟩ t) hm3
      clear F3
      have htake : rs.take (i + 1) = rs.take i ++ [pr] := by rw [List.take_add_one, hpr]; rfl
      have e0 : inRanges (rs.take (i + 1)) d = (inRanges (rs.take i) d || (decide (pr.1 ≤ d) && decide (d ≤ pr.2))) := by
        unfold inRanges; rw [htake, List.any_append]; simp
      (try k_fold)
      k_steps
      · (rename Fr _ _ _ _ => F'); (rename News _ _ _ _ => N')
        have e : inRanges (rs.take (i + 1)) d = true := by
          rw [e0, decide_eq_true (by assumption), decide_eq_true (by assumption)]; simp
        exact ⟨_, _, _, _, rfl, F', N', fun _ hp => (nomatch hp), rfl, by rw [e]; rfl, rfl, rfl⟩
      · (rename Fr _ _ _ _ => F'); (rename News _ _ _ _ => N')
        have e : inRanges (rs.take (i + 1)) d = inRanges (rs.take i) d := by
          rw [e0, decide_eq_false (p := d ≤ pr.2) (by assumption)]; simp
        exact ⟨_, _, _, _, rfl, F', N', fun _ hp => (nomatch hp), rfl, by rw [e]; rfl, rfl, rfl⟩
      · (rename Fr _ _ _ _ => F'); (rename News _ _ _ _ => N')
        have e : inRanges (rs.take (i + 1)) d = inRanges (rs.take i) d := by
          rw [e0, decide_eq_false (p := pr.1 ≤ d) (by assumption)]; simp
        exact ⟨_, _, _, _, rfl, F', N', fun _ hp => (nomatch hp), rfl, by rw [e]; rfl, rfl, rfl⟩
    · rintro m news h tk ⟨rfl, hm1, hm2, hm3⟩ F3 N3
      have htake : rs.take vs.length = rs := by rw [hvs.length]; exact List.take_length
      rw [htake] at hm1
      have F4 := frSet (frSet F3 (x := Str.ofString "inside") (v := .bool (inRanges rs d)) hm1) (x := Str.ofString "self") (v := .ref x) hm2
      clear F3
      (try k_fold)
      k_steps
      exact ret _ _ F4.keep
end
section
inductive Mt : List PD → List Nat → Prop
  | nil : Mt [] []
  | star0 {ps t} : Mt ps t → Mt (.any :: ps) t
  | star1 {ps t c} : Mt (.any :: ps) t → Mt (.any :: ps) (c :: t)
  | one {p ps t c} : p ≠ .any → takesB p c = true → Mt ps t → Mt (p :: ps) (c :: t)

theorem mt_any {ps : List PD} {t : List Nat} : Mt (.any :: ps) t ↔ ∃ k, k ≤ t.length ∧ Mt ps (t.drop k) := by
  constructor
  · intro h
    generalize hq : (PD.any :: ps) = q at h
    induction h with
    | nil => cases hq
    | star0 h _ => cases hq; exact ⟨0, Nat.zero_le _, h⟩
    | star1 h ih => cases hq; obtain ⟨k, hk, hm⟩ := ih rfl; exact ⟨k + 1, by simp; omega, by simpa using hm⟩
    | one hne _ _ _ => cases hq; exact absurd rfl hne
  · rintro ⟨k, hk, hm⟩
    induction k generalizing t with
    | zero => exact .star0 (by simpa using hm)
    | succ k ih =>
      cases t with
      | nil => simp at hk
      | cons c t => exact .star1 (ih (by simpa using hk) (by simpa using hm))
theorem mt_one {p : PD} {ps : List PD} {c : Nat} {t : List Nat} (hp : p ≠ .any) : Mt (p :: ps) (c :: t) ↔ takesB p c = true ∧ Mt ps t := by
  constructor
  · intro h
    cases h with
    | star0 _ => exact absurd rfl hp
    | star1 _ => exact absurd rfl hp
    | one _ a b => exact ⟨a, b⟩
  · rintro ⟨a, b⟩; exact .one hp a b
theorem mt_one_nil {p : PD} {ps : List PD} (hp : p ≠ .any) : ¬ Mt (p :: ps) [] := by
  intro h
  cases h with
  | star0 _ => exact absurd rfl hp
theorem mt_nil_cons {c : Nat} {t : List Nat} : ¬ Mt [] (c :: t) := by intro h; cases h
/-- plain parts take as many signs as they are -/
theorem mt_plain {ps : List PD} : ∀ {n : Nat} {t : List Nat}, (∀ (i : Nat) (p : PD), i < n → ps[i]? = some p → p ≠ .any) → n ≤ ps.length → Mt ps t → n ≤ t.length ∧ Mt (ps.drop n) (t.drop n) := by
  intro n
  induction n generalizing ps with
  | zero => intro t _ _ h; exact ⟨Nat.zero_le _, by simpa using h⟩
  | succ n ih =>
    intro t hp hn h
    cases ps with
    | nil => simp at hn
    | cons p ps =>
      have hne := hp 0 p (by omega) (by simp)
      cases t with
      | nil => exact absurd h (mt_one_nil hne)
      | cons c t =>
        obtain ⟨_, h2⟩ := (mt_one hne).mp h
        obtain ⟨h3, h4⟩ := ih (ps := ps) (fun i q hi hq => hp (i + 1) q (by omega) (by simpa using hq)) (by simpa using hn) h2
        exact ⟨by simp; omega, by simpa using h4⟩

/-- where the greedy walk stands -/
def GrB (ps : List PD) (tx : List Nat) (place at_ : Nat) : Option (Nat × Nat) → Prop
  | none => Mt ps tx ↔ Mt (ps.drop place) (tx.drop at_)
  | some (bp, ba) => bp ≤ place ∧ ba ≤ at_ ∧ at_ - ba = place - bp ∧ (∀ (i : Nat) (p : PD), bp ≤ i → i < place → ps[i]? = some p → p ≠ .any) ∧
      (Mt ps tx ↔ (Mt (ps.drop place) (tx.drop at_) ∨ ∃ k, ba < k ∧ k ≤ tx.length ∧ Mt (ps.drop bp) (tx.drop k)))
def Gr (ps : List PD) (tx : List Nat) (place at_ : Nat) (b : Option (Nat × Nat)) : Prop := place ≤ ps.length ∧ at_ ≤ tx.length ∧ GrB ps tx place at_ b

theorem gr_start (ps : List PD) (tx : List Nat) : Gr ps tx 0 0 none := ⟨Nat.zero_le _, Nat.zero_le _, by show _ ↔ _; simp⟩

theorem drop_cons {α : Type} {l : List α} {i : Nat} {a : α} (h : l[i]? = some a) : l.drop i = a :: l.drop (i + 1) := by
  obtain ⟨hi, rfl⟩ := List.getElem?_eq_some_iff.mp h
  exact List.drop_eq_getElem_cons hi

theorem gr_any {ps : List PD} {tx : List Nat} {place at_ : Nat} {b : Option (Nat × Nat)} (h : Gr ps tx place at_ b) (hp : ps[place]? = some .any) : Gr ps tx (place + 1) at_ (some (place + 1, at_)) := by
  obtain ⟨h1, h2, h3⟩ := h
  have hlt : place < ps.length := (List.getElem?_eq_some_iff.mp hp).1
  refine ⟨hlt, h2, Nat.le_refl _, Nat.le_refl _, by omega, fun i p a b => by omega, ?_⟩
  have key : Mt (ps.drop place) (tx.drop at_) ↔ (Mt (ps.drop (place + 1)) (tx.drop at_) ∨ ∃ k, at_ < k ∧ k ≤ tx.length ∧ Mt (ps.drop (place + 1)) (tx.drop k)) := by
    rw [drop_cons hp, mt_any]
    constructor
    · rintro ⟨k, hk, hm⟩
      rw [List.drop_drop] at hm
      simp only [List.length_drop] at hk
      cases k with
      | zero => exact .inl (by simpa using hm)
      | succ k => exact .inr ⟨at_ + (k + 1), by omega, by omega, hm⟩
    · rintro (hm | ⟨k, h4, h5, hm⟩)
      · exact ⟨0, Nat.zero_le _, by simpa using hm⟩
      · refine ⟨k - at_, by simp; omega, ?_⟩
        rw [List.drop_drop, show at_ + (k - at_) = k from by omega]; exact hm
  cases b with
  | none => exact Iff.trans h3 key
  | some q =>
    obtain ⟨bp, ba⟩ := q
    obtain ⟨a1, a2, a3, a4, a5⟩ := h3
    rw [a5, key]
    constructor
    · rintro (h | ⟨k, h4, h5, hm⟩)
      · exact h
      · have hl : (ps.drop bp).length = ps.length - bp := by simp
        obtain ⟨h6, h7⟩ := mt_plain (ps := ps.drop bp) (n := place - bp) (t := tx.drop k) (fun i p hi hq => by
          rw [List.getElem?_drop] at hq
          exact a4 (bp + i) p (by omega) (by omega) hq) (by rw [hl]; omega) hm
        rw [List.drop_drop, List.drop_drop, show bp + (place - bp) = place from by omega] at h7
        have h8 := (key.mp ?_)
        · exact h8
        · rw [drop_cons hp] at h7 ⊢
          rw [mt_any] at h7 ⊢
          obtain ⟨j, hj, hmj⟩ := h7
          rw [List.drop_drop] at hmj
          simp only [List.length_drop] at hj h6
          refine ⟨k + (place - bp) + j - at_, by simp; omega, ?_⟩
          rw [List.drop_drop, show at_ + (k + (place - bp) + j - at_) = k + (place - bp) + j from by omega]
          exact hmj
    · exact fun h => .inl h

theorem gr_step {ps : List PD} {tx : List Nat} {place at_ c : Nat} {p : PD} {b : Option (Nat × Nat)} (h : Gr ps tx place at_ b) (hp : ps[place]? = some p) (hne : p ≠ .any) (hc : tx[at_]? = some c) (ht : takesB p c = true) : Gr ps tx (place + 1) (at_ + 1) b := by
  obtain ⟨h1, h2, h3⟩ := h
  have hlt : place < ps.length := (List.getElem?_eq_some_iff.mp hp).1
  have hlt2 : at_ < tx.length := (List.getElem?_eq_some_iff.mp hc).1
  have key : Mt (ps.drop place) (tx.drop at_) ↔ Mt (ps.drop (place + 1)) (tx.drop (at_ + 1)) := by
    rw [drop_cons hp, drop_cons hc, mt_one hne]; simp [ht]
  refine ⟨hlt, hlt2, ?_⟩
  cases b with
  | none => exact Iff.trans h3 key
  | some q =>
    obtain ⟨bp, ba⟩ := q
    obtain ⟨a1, a2, a3, a4, a5⟩ := h3
    refine ⟨by omega, by omega, by omega, fun i q hi hi2 hq => ?_, ?_⟩
    · by_cases e : i = place
      · rw [e, hp] at hq; cases hq; exact hne
      · exact a4 i q hi (by omega) hq
    · rw [a5, key]

theorem gr_back {ps : List PD} {tx : List Nat} {place at_ bp ba : Nat} (h : Gr ps tx place at_ (some (bp, ba))) (hlt : at_ < tx.length) (hno : ¬ Mt (ps.drop place) (tx.drop at_)) : Gr ps tx bp (ba + 1) (some (bp, ba + 1)) := by
  obtain ⟨h1, h2, a1, a2, a3, a4, a5⟩ := h
  refine ⟨by omega, by omega, Nat.le_refl _, Nat.le_refl _, by omega, fun i q hi hi2 => by omega, ?_⟩
  rw [a5]
  constructor
  · rintro (h | ⟨k, h4, h5, hm⟩)
    · exact absurd h hno
    · by_cases e : k = ba + 1
      · subst e; exact .inl hm
      · exact .inr ⟨k, by omega, h5, hm⟩
  · rintro (h | ⟨k, h4, h5, hm⟩)
    · exact .inr ⟨ba + 1, by omega, by omega, h⟩
    · exact .inr ⟨k, by omega, h5, hm⟩

theorem gr_fail {ps : List PD} {tx : List Nat} {place at_ : Nat} (h : Gr ps tx place at_ none) (hno : ¬ Mt (ps.drop place) (tx.drop at_)) : ¬ Mt ps tx := fun q => hno (h.2.2.mp q)
theorem gr_no {ps : List PD} {tx : List Nat} {place at_ c : Nat} (hc : tx[at_]? = some c) (hp : ∀ p, ps[place]? = some p → p ≠ .any ∧ takesB p c = false) : ¬ Mt (ps.drop place) (tx.drop at_) := by
  rw [drop_cons hc]
  cases e : ps[place]? with
  | none => rw [List.drop_eq_nil_of_le (List.getElem?_eq_none_iff.mp e)]; exact mt_nil_cons
  | some p =>
    obtain ⟨h1, h2⟩ := hp p e
    rw [drop_cons e, mt_one h1]
    rintro ⟨h3, _⟩
    rw [h2] at h3; cases h3
theorem gr_end {ps : List PD} {tx : List Nat} {place at_ : Nat} {b : Option (Nat × Nat)} (h : Gr ps tx place at_ b) (he : ¬ at_ < tx.length) : Mt ps tx ↔ Mt (ps.drop place) [] := by
  obtain ⟨h1, h2, h3⟩ := h
  have e : tx.drop at_ = [] := List.drop_eq_nil_of_le (by omega)
  cases b with
  | none => rw [← e]; exact h3
  | some q =>
    obtain ⟨bp, ba⟩ := q
    obtain ⟨a1, a2, a3, a4, a5⟩ := h3
    rw [a5, e]
    constructor
    · rintro (h | ⟨k, h4, h5, hm⟩)
      · exact h
      · exfalso
        have hl : (ps.drop bp).length = ps.length - bp := by simp
        obtain ⟨h6, _⟩ := mt_plain (ps := ps.drop bp) (n := place - bp) (t := tx.drop k) (fun i p hi hq => by
          rw [List.getElem?_drop] at hq
          exact a4 (bp + i) p (by omega) (by omega) hq) (by rw [hl]; omega) hm
        simp only [List.length_drop] at h6
        omega
    · exact fun h => .inl h
theorem mt_rest_any {ps : List PD} {place : Nat} (hp : ps[place]? = some .any) : Mt (ps.drop place) [] ↔ Mt (ps.drop (place + 1)) [] := by
  rw [drop_cons hp, mt_any]
  constructor
  · rintro ⟨k, _, hm⟩; simpa using hm
  · intro h; exact ⟨0, Nat.le_refl _, by simpa using h⟩
theorem mt_rest_end {ps : List PD} {place : Nat} (hle : place ≤ ps.length) (h : ∀ p, ps[place]? = some p → p ≠ .any) : Mt (ps.drop place) [] ↔ place = ps.length := by
  cases e : ps[place]? with
  | none =>
    have := List.getElem?_eq_none_iff.mp e
    rw [List.drop_eq_nil_of_le this]
    exact ⟨fun _ => by omega, fun _ => .nil⟩
  | some p =>
    have hlt := (List.getElem?_eq_some_iff.mp e).1
    rw [drop_cons e]
    exact ⟨fun q => absurd q (mt_one_nil (h p e)), fun q => by omega⟩

section
variable {prog : Program} {w : World} {A : Around} {E : Value → Shared → Prop} {s : Shared} {G : Heap} {L : Addr} {m : Str → Option Value}
theorem item_base {value slice : Expr} {l : Addr} {vs : List Value} {k : Int} {j : Nat} {u : Tok} {v : Value} {Q : Value → Shared → Prop} (F : Fr G L s.heap m)
    (hl : G.IsList l vs.toArray) (hn : vs.length ≤ 100000) (hx : vs[j]? = some v) (hk : k = (j : Int)) (h : Q v s)
    (hs : subscripted slice false (.ref l) (.int k u) = operate [.ref l, .int k u] (getItem (.ref l) (.int k u)) := by with_unfolding_all rfl) :
    wpAny (model prog w) A (subscriptTail value slice (.ref l) (.int k u)) Q E s := by
  subst hk
  have hL : s.heap.IsList l vs.toArray := hl.at fun o e => F.keep l o e
  have hj := (List.getElem?_eq_some_iff.mp hx).1
  exact tail_any hL.typeIs slot_list_getitem.lookup (wpAny_getItem_list hL (by omega) (by omega) (by simpa using hx) h) hs
theorem len_base {l : Addr} {vs : List Value} {Q : Value → Shared → Prop} (F : Fr G L s.heap m) (hl : G.IsList l vs.toArray) (hn : vs.length ≤ 100000) (h : Q (.int vs.length (s.toks + 1)) { s with toks := s.toks + 1 + 1 }) :
    wpAny (model prog w) A (call (.builtin "len") [.ref l]) Q E s := by
  have hL : s.heap.IsList l vs.toArray := hl.at fun o e => F.keep l o e
  exact Calls.call_len_list hL (by simp only [List.size_toArray]; omega) (by simpa using h)
theorem len_text {x : Str} {t : Tok} {Q : Value → Shared → Prop} (hn : x.cps.size ≤ 100000) (h : Q (.int x.cps.size (s.toks + 1)) { s with toks := s.toks + 1 + 1 }) : wpAny (model prog w) A (call (.builtin "len") [.str x t]) Q E s :=
  P.len_str (by show ¬ ((x.cps.size : Int) ≥ 2 ^ 63); omega) h
theorem item_sign {value slice : Expr} {x : Str} {t u : Tok} {i : Int} {j c : Nat} {Q : Value → Shared → Prop} (hn : x.cps.size ≤ 100000) (hc : x.cps[j]? = some c) (hk : i = (j : Int))
    (h : Q (.str ⟨#[c]⟩ s.toks) { s with toks := s.toks + 1 })
    (hs : subscripted slice false (.str x t) (.int i u) = operate [.str x t, .int i u] (getItem (.str x t) (.int i u)) := by with_unfolding_all rfl)
    (ht : ∀ r, letTemporaryGo value (.str x t) r = pure () := by intro _; with_unfolding_all rfl) :
    wpAny (model prog w) A (subscriptTail value slice (.str x t) (.int i u)) Q E s := by
  subst hk
  obtain ⟨hlt, he⟩ := Array.getElem?_eq_some_iff.mp hc
  have hi : (j : Int) < (x.length : Int) := by show (j : Int) < (x.cps.size : Int); omega
  refine item_str (fitsSsize_of (N := 9223372036854775808) (by omega) (by omega) (Int.le_refl _)) (by omega) hi (fun _ => ?_) hs ht
  have e : Txt.item x (j : Int) = ⟨#[c]⟩ := item_meets (by omega) (by simpa using hc)
  rw [e]; exact h
end

def ms (P T place at_ : Nat) (b : Option (Nat × Nat)) : Nat := (T + 1 - (b.elim 0 (·.2))) * (P + T + 1) + (P - place) + (T - at_)
theorem ms_any {P T place at_ : Nat} {b : Option (Nat × Nat)} (hp : place < P) (hb : b.elim 0 (·.2) ≤ at_) : ms P T (place + 1) at_ (some (place + 1, at_)) < ms P T place at_ b := by
  unfold ms
  have h1 : T + 1 - at_ ≤ T + 1 - (b.elim 0 (·.2)) := by omega
  have h2 := Nat.mul_le_mul_right (P + T + 1) h1
  simp only [Option.elim]
  simp only [Option.elim] at h2
  omega
theorem ms_step {P T place at_ : Nat} {b : Option (Nat × Nat)} (hp : place < P) : ms P T (place + 1) (at_ + 1) b < ms P T place at_ b := by
  unfold ms; omega
theorem ms_back {P T place at_ bp ba : Nat} (hb : ba < T) : ms P T bp (ba + 1) (some (bp, ba + 1)) < ms P T place at_ (some (bp, ba)) := by
  unfold ms
  simp only [Option.elim]
  have h1 : T + 1 - ba = (T + 1 - (ba + 1)) + 1 := by omega
  rw [h1, Nat.add_mul, Nat.one_mul]
  omega
/-- the walk stops here -/
structure Halt (P : Prop) : Prop where
  out : P
theorem halt_intro {P : Prop} (h : Halt P) : P := h.out
theorem halt_intro' {P : Prop} (h : P) : Halt P := ⟨h⟩
def Has (m : Str → Option Value) : List (Str × Value) → Prop
  | [] => True
  | p :: r => m p.1 = some p.2 ∧ Has m r
theorem frMany {G h : Heap} {L : Addr} {m : Str → Option Value} : ∀ {ps : List (Str × Value)}, Has m ps → Fr G L h m → Fr G L h (kstB m ps)
  | [], _, F => F
  | p :: r, ⟨h1, h2⟩, F => by
    have F2 := frMany h2 F
    have e : kstB m (p :: r) = m := by
      funext y
      have e2 : kstB m r = m := by
        clear F2 h1
        induction r with
        | nil => rfl
        | cons q r ih =>
          funext z
          show (if z = q.1 then some q.2 else kstB m r z) = m z
          rw [ih h2.2]
          by_cases hz : z = q.1
          · rw [if_pos hz, hz, h2.1]
          · rw [if_neg hz]
      show (if y = p.1 then some p.2 else kstB m r y) = m y
      rw [e2]
      by_cases hy : y = p.1
      · rw [if_pos hy, hy, h1]
      · rw [if_neg hy]
    rw [e]; exact F
end
local macro_rules | `(tactic| walk_at "SUBR") => `(tactic| (k_here; k_dflt (refine' item_base ?F ?l ?n ?x ?k ?_; (case F => k_asm); (case l => assumption); (case x => assumption); (case n => omega); (case k => first | rfl | omega); k_whole)))
local macro_rules | `(tactic| walk_at "SUBS") => `(tactic| (k_here; k_dflt (refine' item_sign ?n ?x ?k ?_; (case x => with_reducible assumption); (case n => omega); (case k => first | rfl | omega); k_whole)))
local macro_rules | `(tactic| walk_at "call builtin:len") => `(tactic| (k_here; k_dflt (refine' len_base ?F ?l ?n ?_; (case F => k_asm); (case l => assumption); (case n => omega); k_whole)))
local macro_rules | `(tactic| walk_at "call builtin:len") => `(tactic| (k_here; k_dflt (refine' len_text ?n ?_; (case n => omega); k_whole)))
local macro_rules | `(tactic| walk_at "exec While Compare cons nil") => `(tactic| (k_here; refine halt_intro ?_))
local macro_rules | `(tactic| walk_at "exec While BoolOp cons nil") => `(tactic| (k_here; refine halt_intro ?_))
local macro_rules | `(tactic| walk_at "exec For Name Name cons nil") => `(tactic| (k_here; refine halt_intro ?_))
local macro_rules | `(tactic| walk_at "exec For Name Call cons nil") => `(tactic| (k_here; refine halt_intro ?_))
local macro_rules | `(tactic| walk_at "exec For Tuple Attribute cons nil") => `(tactic| (k_here; refine halt_intro ?_))
local macro_rules | `(tactic| walk_at "eval ListComp") => `(tactic| (k_here; refine halt_intro ?_))
section
section
local macro_rules | `(tactic| walk_at "call ref") => `(tactic| (k_here; (with_reducible show wpAny _ _ (call (Value.ref 75) _ _) _ _ _); (rename Fr _ _ _ _ => F9); (rename News _ _ _ _ => N9); (k_dflt (refine' takes_spec ?am ?ok ?hs ?hp ?hne ?_; (case am => exact Amb.up (by assumption) F9.keep); (case ok => (refine Ok.le (Ok.deep ‹Ok _ _› _) ?_; decide)); (case hs => exact Stands.up (by assumption) F9.keep); (case hp => assumption); (case hne => assumption))); intro h' tk' hs'; (have F' := F9.keeps hs'); (have N' := N9.grown hs'); clear F9 N9))

local macro_rules | `(tactic| walk_at "exec If") => `(tactic| (k_here; (with_reducible show wpAny _ _ (exec (Stmt.If (Expr.Compare (Expr.Name _ _) [CmpOp.IsNot] _ _) _ _ _) _) _ _ _); refine halt_intro ?_))
theorem part_kind {w : World} {tl : Led} {v : Value} {pd : PD} (h : PartAt w tl v pd) : ∃ x dx k u sv rv nv t1 t2 t3 t4, v = .ref x ∧ (x, instObj 78 dx) ∈ tl ∧ (dx, partDict w (.int k u) sv rv nv t1 t2 t3 t4) ∈ tl ∧ (k = 0 ↔ pd = .any) := by
  cases pd with
  | any => obtain ⟨u, x, dx, t1, t2, t3, t4, e, h1, h2⟩ := h; exact ⟨x, dx, _, _, _, _, _, _, _, _, _, e, h1, h2, by simp⟩
  | one => obtain ⟨u, x, dx, t1, t2, t3, t4, e, h1, h2⟩ := h; exact ⟨x, dx, _, _, _, _, _, _, _, _, _, e, h1, h2, by simp⟩
  | sign c => obtain ⟨u, t, x, dx, t1, t2, t3, t4, e, h1, h2⟩ := h; exact ⟨x, dx, _, _, _, _, _, _, _, _, _, e, h1, h2, by simp⟩
  | lot rs neg => obtain ⟨u, r, ⟨x, dx, t1, t2, t3, t4, e, h1, h2⟩, _⟩ := h; exact ⟨x, dx, _, _, _, _, _, _, _, _, _, e, h1, h2, by simp⟩

def BackIs : Option (Nat × Nat) → Value → Value → Prop
  | none, bpv, _ => bpv = .none
  | some (bp, ba), bpv, bav => (∃ u, bpv = .int (bp : Nat) u) ∧ ∃ u, bav = .int (ba : Nat) u
inductive MInv (ps : List PD) (x : Str) (n0 : Nat) (r : Addr) (t : Tok) (n : Nat) (m : Str → Option Value) (news : List (Addr × Obj)) : Prop
  | mk (place : Nat) (at_ : Nat) (b : Option (Nat × Nat)) (t1 : Tok) (t2 : Tok) (bpv : Value) (bav : Value) (q1 : news = []) (q2 : Gr ps x.cps.toList place at_ b) (q3 : Has m [(Str.ofString "parts", .ref r), (Str.ofString "text", .str x t), (Str.ofString "place", .int (place : Nat) t1), (Str.ofString "at", .int (at_ : Nat) t2), (Str.ofString "back_place", bpv), (Str.ofString "back_at", bav)]) (q4 : BackIs b bpv bav) (q5 : n = ms n0 x.cps.size place at_ b) : MInv ps x n0 r t n m news
theorem matches_spec {w : World} {A : Around} {s : Shared} {tl : Led} {r : Addr} {vs : List Value} {n0 : Nat} {ps : List PD} {x : Str} {t : Tok} (am : Amb w s.heap) (ok : Ok 2 A) (hs : Stands s.heap tl) (hr : (r, listOf vs.toArray n0) ∈ tl) (hvs : All2 (PartAt w tl) vs ps) (hP : vs.length ≤ 1000) (hT : x.cps.size ≤ 1000) {Q : Value → Shared → Prop} {E : Value → Shared → Prop}
  (ret : ∀ h' tk b, Sub s.heap h' → (b = true ↔ Mt ps x.cps.toList) → Q (.bool b) { s with heap := h', toks := tk }) :
    wpAny (model PySem.Challenge.rw_nt0095_01.row.prog w) A (call (.ref 89) [.ref r, .str x t] []) Q E s := by
  refine wpAny_noRaise ?_
  have X := am.X
  obtain ⟨p, l, mg, mb, T⟩ := am.T
  have hlist : s.heap.IsList r vs.toArray := ⟨_, hs _ hr, rfl, _, rfl⟩
  have hlen := hvs.length
  have hT2 : x.cps.toList.length = x.cps.size := by simp
  refine' enterP (binds := [(Str.ofString "parts", .ref r), (Str.ofString "text", .str x t)]) ?k1 ?k2 ?k3 ?k4 ?k5 ?k6 ?_ ?c1 ?c2 ?c3 ?c4
  walk_at "ENTERP"
  intro L h₁ hL F N
  (try k_fold)
  k_steps
  refine halt_intro' ?_
  (rename Fr _ _ _ _ => F2); (rename News _ _ _ _ => N2)
  (try k_fold)
  refine while_inv (MInv ps x vs.length r t) _ F2 N2
    ⟨0, 0, none, _, _, _, _, rfl, gr_start _ _, ⟨rfl, rfl, rfl, rfl, rfl, rfl, trivial⟩, rfl, rfl⟩ ?_
  rintro n m news h tk ⟨place, at_, b, t1, t2, bpv, bav, rfl, hG, hm, hb, rfl⟩ F3 N3
  have F4 := frMany hm F3
  clear F3 F2 N2
  by_cases hat : at_ < x.cps.size
  · obtain ⟨c, hc⟩ : ∃ c, x.cps[at_]? = some c := ⟨x.cps[at_], by simp [hat]⟩
    have hcl : x.cps.toList[at_]? = some c := by rw [Array.getElem?_toList]; exact hc
    by_cases hpl : place < vs.length
    · obtain ⟨v, hv⟩ : ∃ v, vs[place]? = some v := ⟨vs[place], by simp [hpl]⟩
      obtain ⟨pd, hpd, hpart⟩ := hvs.getL _ _ hv
      obtain ⟨x9, dx9, k9, u9, sv, rv, nv, q1, q2, q3, q4, rfl, g1, g2, hk9⟩ := part_kind hpart
      have hx9 := hs _ g1
      have hd9 := hs _ g2
      by_cases hk : k9 = 0
      · have hany := hk9.mp hk
        subst hany hk
        (try k_fold)
        k_steps
        (rename Fr _ _ _ _ => F'); (rename News _ _ _ _ => N')
        refine ⟨_, _, _, _, _, ms_any hpl ?_, rfl, F', N', place + 1, at_, some (place + 1, at_), _, _, _, _, rfl, gr_any hG hpd, ⟨rfl, rfl, rfl, rfl, rfl, rfl, trivial⟩, ⟨⟨_, rfl⟩, ⟨_, rfl⟩⟩, rfl⟩
        cases b with
        | none => exact Nat.zero_le _
        | some q => exact hG.2.2.2.1
      · have hne : pd ≠ .any := fun e => hk (hk9.mpr e)
        (try k_fold)
        k_steps
        · (rename Fr _ _ _ _ => F'); (rename News _ _ _ _ => N')
          exact ⟨_, _, _, _, _, ms_step hpl, rfl, F', N', place + 1, at_ + 1, b, _, _, _, _, rfl, gr_step hG hpd hne hcl (by assumption), ⟨rfl, rfl, rfl, rfl, rfl, rfl, trivial⟩, hb, rfl⟩
        (rename takesB pd c = false => hfalse)
        refine halt_intro' (wpAny_If ?_)
        cases b with
        | none =>
          cases (show bpv = .none from hb)
          (try k_fold)
          k_steps
          (rename Fr _ _ _ _ => F')
          exact ret _ _ false F'.keep (by
              have := gr_fail hG (gr_no hcl fun p hp => by rw [hpd] at hp; cases hp; exact ⟨hne, hfalse⟩)
              simp [this])
        | some q =>
          obtain ⟨bp, ba⟩ := q
          obtain ⟨⟨u1, rfl⟩, u2, rfl⟩ := hb
          (try k_fold)
          k_steps
          (rename Fr _ _ _ _ => F'); (rename News _ _ _ _ => N')
          have hle : ba ≤ at_ := hG.2.2.2.1
          exact ⟨_, _, _, _, _, ms_back (by omega), rfl, F', N', bp, ba + 1, some (bp, ba + 1), _, _, _, _, rfl, gr_back hG (by omega) (gr_no hcl fun p hp => by rw [hpd] at hp; cases hp; exact ⟨hne, hfalse⟩), ⟨rfl, rfl, rfl, rfl, rfl, rfl, trivial⟩, ⟨⟨_, rfl⟩, ⟨_, rfl⟩⟩, rfl⟩
    · have hnone : ∀ p, ps[place]? = some p → p ≠ .any ∧ takesB p c = false := fun p hp => by
        have := (List.getElem?_eq_some_iff.mp hp).1
        omega
      (try k_fold)
      k_steps
      refine halt_intro' (wpAny_If ?_)
      cases b with
      | none =>
        cases (show bpv = .none from hb)
        (try k_fold)
        k_steps
        (rename Fr _ _ _ _ => F')
        exact ret _ _ false F'.keep (by
          have := gr_fail hG (gr_no hcl hnone)
          simp [this])
      | some q =>
        obtain ⟨bp, ba⟩ := q
        obtain ⟨⟨u1, rfl⟩, u2, rfl⟩ := hb
        (try k_fold)
        k_steps
        (rename Fr _ _ _ _ => F'); (rename News _ _ _ _ => N')
        have hle : ba ≤ at_ := hG.2.2.2.1
        exact ⟨_, _, _, _, _, ms_back (by omega), rfl, F', N', bp, ba + 1, some (bp, ba + 1), _, _, _, _, rfl, gr_back hG (by omega) (gr_no hcl hnone), ⟨rfl, rfl, rfl, rfl, rfl, rfl, trivial⟩, ⟨⟨_, rfl⟩, ⟨_, rfl⟩⟩, rfl⟩
  · have hend := gr_end hG (by omega)
    have hpm : place ≤ ps.length := hG.1
    (try k_fold)
    k_steps
    refine halt_intro' ?_
    clear hb
    (try k_fold)
    refine while_inv (fun n m news => ∃ place t1, news = [] ∧ place ≤ ps.length ∧ (Mt ps x.cps.toList ↔ Mt (ps.drop place) []) ∧ Has m [(Str.ofString "parts", .ref r), (Str.ofString "place", .int (place : Nat) t1)] ∧ n = vs.length - place) _ F4 N3
      ⟨place, _, rfl, hpm, hend, ⟨rfl, rfl, trivial⟩, rfl⟩ ?_
    clear F4 N3 hend hpm hm hG
    rintro n m news h tk ⟨place, t1, rfl, hple, hend, hm, rfl⟩ F3 N3
    have F4 := frMany hm F3
    clear F3
    by_cases hpl : place < vs.length
    · obtain ⟨v, hv⟩ : ∃ v, vs[place]? = some v := ⟨vs[place], by simp [hpl]⟩
      obtain ⟨pd, hpd, hpart⟩ := hvs.getL _ _ hv
      obtain ⟨x9, dx9, k9, u9, sv, rv, nv, q1, q2, q3, q4, rfl, g1, g2, hk9⟩ := part_kind hpart
      have hx9 := hs _ g1
      have hd9 := hs _ g2
      by_cases hk : k9 = 0
      · have hany := hk9.mp hk
        subst hany hk
        (try k_fold)
        k_steps
        (rename Fr _ _ _ _ => F'); (rename News _ _ _ _ => N')
        exact ⟨_, _, _, _, _, Nat.sub_lt_sub_left hpl (Nat.lt_succ_self _), rfl, F', N', place + 1, _, rfl, by omega, hend.trans (mt_rest_any hpd), ⟨rfl, rfl, trivial⟩, rfl⟩
      · have hne : pd ≠ .any := fun e => hk (hk9.mpr e)
        have hfin := hend.trans (mt_rest_end hple fun p hp => by rw [hpd] at hp; cases hp; exact hne)
        (try k_fold)
        k_steps
        · exact ret _ _ _ F4.keep (by rw [hfin, beq_iff_eq]; omega)
    · have hfin := hend.trans (mt_rest_end hple fun p hp => by have := (List.getElem?_eq_some_iff.mp hp).1; omega)
      (try k_fold)
      k_steps
      exact ret _ _ _ F4.keep (by rw [hfin, beq_iff_eq]; omega)
end
end
section
theorem eq_sign {prog : Program} {w : World} {A : Around} {E : Value → Shared → Prop} {s : Shared} {x y : Str} {t u : Tok} {a b : Nat} {Q : Value → Shared → Prop} (hx : x = ⟨#[a]⟩) (hy : y = ⟨#[b]⟩) (h : Q (.bool (decide (a = b))) s) :
    wpAny (model prog w) A (compareOp .Eq (.str x t) (.str y u)) Q E s := by
  refine PyProof.Rows.eq_str ?_
  have e : (x == y) = decide (a = b) := by
    subst hx hy
    by_cases h : a = b
    · subst h; simp
    · rw [decide_eq_false h]; exact decide_eq_false fun q => h (by injection q with q; simpa using q)
  rw [e]; exact h
theorem foldA1_spec {w : World} {A : Around} {s : Shared} {d : Nat} {t : Tok} (am : Amb w s.heap) (ok : Ok 1 A) {Q : Value → Shared → Prop} {E : Value → Shared → Prop}
  (ret : ∀ h' tk t', Sub s.heap h' → Q (.str ⟨#[foldC d]⟩ t') { s with heap := h', toks := tk }) :
    wpAny (model PySem.Challenge.rw_nt0095_01.row.prog w) A (call (.ref 53) [.str ⟨#[d]⟩ t] []) Q E s :=
  foldA_spec (x := ⟨#[d]⟩) (by simp) am ok ret

theorem news_rot3 {G h : Heap} {L : Addr} {x d a : Addr × Obj} {tl : Led} (N : News G L h (x :: d :: a :: tl)) : News G L h (a :: x :: d :: tl) := by
  intro p hp
  refine N p ?_
  rcases List.mem_cons.mp hp with e | hp
  · rw [e]; exact .tail _ (.tail _ (.head _))
  · rcases List.mem_cons.mp hp with e | hp
    · rw [e]; exact .head _
    · rcases List.mem_cons.mp hp with e | hp
      · rw [e]; exact .tail _ (.head _)
      · exact .tail _ (.tail _ (.tail _ hp))
theorem lsub_cons {a b : Led} {x : Addr × Obj} (h : LSub a b) : LSub a (x :: b) := fun p hp => .tail _ (h p hp)
theorem lsub_refl (a : Led) : LSub a a := fun _ h => h

def likeC (c : Nat) : PD := if c = 37 then PD.any else if c = 95 then PD.one else PD.sign (foldC c)
def likeP (esc : Option Nat) : List Nat → Option (List PD)
  | [] => some []
  | [c] => if esc = some c then none else some [likeC c]
  | c :: d :: r => if esc = some c then (likeP esc r).map (PD.sign (foldC d) :: ·) else (likeP esc (d :: r)).map (likeC c :: ·)
theorem likeP_esc (c d : Nat) (r : List Nat) : likeP (some c) (c :: d :: r) = (likeP (some c) r).map (PD.sign (foldC d) :: ·) := by rw [likeP, if_pos rfl]
theorem likeP_end (c : Nat) : likeP (some c) [c] = none := by rw [likeP, if_pos rfl]
theorem likeP_plain {esc : Option Nat} {c : Nat} (h : esc ≠ some c) (r : List Nat) : likeP esc (c :: r) = (likeP esc r).map (likeC c :: ·) := by
  cases r with
  | nil => simp [likeP, h]
  | cons d r => rw [likeP, if_neg h]
theorem map_snoc {α : Type} {o : Option (List α)} {a : α} {done : List α} : (o.map (a :: ·)).map (done ++ ·) = o.map ((done ++ [a]) ++ ·) := by cases o <;> simp
theorem likeP_length {esc : Option Nat} : ∀ (n : Nat) (p : List Nat), p.length ≤ n → ∀ ps, likeP esc p = some ps → ps.length ≤ p.length := by
  intro n
  induction n with
  | zero =>
    intro p hp ps h
    cases p with
    | nil => rw [likeP] at h; cases h; simp
    | cons c r => simp at hp
  | succ n ih =>
    intro p hp ps h
    cases p with
    | nil => rw [likeP] at h; cases h; simp
    | cons c r =>
      by_cases he : esc = some c
      · subst he
        cases r with
        | nil => rw [likeP_end] at h; cases h
        | cons d r =>
          rw [likeP_esc] at h
          cases e : likeP (some c) r with
          | none => rw [e] at h; cases h
          | some qs =>
            rw [e] at h; cases h
            have := ih r (by simp at hp; omega) qs e
            simp; omega
      · rw [likeP_plain he] at h
        cases e : likeP esc r with
        | none => rw [e] at h; cases h
        | some qs =>
          rw [e] at h; cases h
          have := ih r (by simpa using hp) qs e
          simp; omega

/-- a result: none, or a list of parts -/
def ResParts (w : World) (tl : Led) (v : Value) : Option (List PD) → Prop
  | none => v = .none
  | some ps => ∃ r vs n, v = .ref r ∧ (r, listOf vs.toArray n) ∈ tl ∧ All2 (PartAt w tl) vs ps
def NewLed (H h : Heap) (tl : Led) : Prop := ∀ p ∈ tl, h.get? p.1 = some p.2 ∧ H.get? p.1 = none
theorem NewLed.of {G h : Heap} {L : Addr} {tl : Led} (N : News G L h tl) : NewLed G h tl := fun p hp => ⟨(N p hp).1, (N p hp).2.2⟩
theorem turn_part {w : World} {G h : Heap} {L a x d : Addr} {k : Nat} {vs : List Value} {tl : Led} {done : List PD} {pd : PD} {o1 o2 : Obj} {v : Value} (N : News G L h ((x, o1) :: (d, o2) :: (a, listOf (vs.toArray.push v) (k + 1)) :: tl))
    (l1 : @LT.lt Nat _ a d ∧ AllLt d tl) (l2 : @LT.lt Nat _ d x) (hoff : ∀ p ∈ tl, p.1 ≠ a) (hvs : All2 (PartAt w tl) vs done) (hp : PartAt w [(x, o1), (d, o2)] v pd) :
    News G L h ((a, listOf (vs ++ [v]).toArray (k + 1)) :: (x, o1) :: (d, o2) :: tl) ∧ (∀ p ∈ (x, o1) :: (d, o2) :: tl, p.1 ≠ a) ∧ All2 (PartAt w ((x, o1) :: (d, o2) :: tl)) (vs ++ [v]) (done ++ [pd]) := by
  have N2 := news_rot3 N
  rw [List.push_toArray] at N2
  refine ⟨N2, ?_, ?_⟩
  · intro p hp
    rcases List.mem_cons.mp hp with rfl | hp
    · exact Nat.ne_of_gt (Nat.lt_trans l1.1 l2)
    · rcases List.mem_cons.mp hp with rfl | hp
      · exact Nat.ne_of_gt l1.1
      · exact hoff p hp
  · refine All2.snoc (hvs.mono fun v p => PartAt.mono (lsub_cons (lsub_cons (lsub_refl _)))) (hp.mono ?_)
    intro p hp
    rcases List.mem_cons.mp hp with rfl | hp
    · exact .head _
    · rw [List.mem_singleton.mp hp]; exact .tail _ (.head _)
def Nxt (x : Str) (j c : Nat) : Prop := x.cps[j]? = some c
def Nxt2 (x : Str) (j c : Nat) : Prop := x.cps[j]? = some c
theorem item_nxt {prog : Program} {w : World} {A : Around} {E : Value → Shared → Prop} {s : Shared} {value slice : Expr} {x : Str} {t u : Tok} {i : Int} {j c : Nat} {Q : Value → Shared → Prop} (hn : x.cps.size ≤ 100000) (hc : Nxt x j c) (hk : i = (j : Int))
    (h : Q (.str ⟨#[c]⟩ s.toks) { s with toks := s.toks + 1 })
    (hs : subscripted slice false (.str x t) (.int i u) = operate [.str x t, .int i u] (getItem (.str x t) (.int i u)) := by with_unfolding_all rfl)
    (ht : ∀ r, letTemporaryGo value (.str x t) r = pure () := by intro _; with_unfolding_all rfl) :
    wpAny (model prog w) A (subscriptTail value slice (.str x t) (.int i u)) Q E s := item_sign hn hc hk h hs ht
theorem item_nxt2 {prog : Program} {w : World} {A : Around} {E : Value → Shared → Prop} {s : Shared} {value slice : Expr} {x : Str} {t u : Tok} {i : Int} {j c : Nat} {Q : Value → Shared → Prop} (hn : x.cps.size ≤ 100000) (hc : Nxt2 x j c) (hk : i = (j : Int))
    (h : Q (.str ⟨#[c]⟩ s.toks) { s with toks := s.toks + 1 })
    (hs : subscripted slice false (.str x t) (.int i u) = operate [.str x t, .int i u] (getItem (.str x t) (.int i u)) := by with_unfolding_all rfl)
    (ht : ∀ r, letTemporaryGo value (.str x t) r = pure () := by intro _; with_unfolding_all rfl) :
    wpAny (model prog w) A (subscriptTail value slice (.str x t) (.int i u)) Q E s := item_sign hn hc hk h hs ht
theorem news_of_new {G h h' : Heap} {L : Addr} {m : Str → Option Value} {tl : Led} (F : Fr G L h m) (hN : NewLed h h' tl) : News G L h' tl := fun p hp => by
  obtain ⟨h1, h2⟩ := hN p hp
  refine ⟨h1, fun e => ?_, ?_⟩
  · obtain ⟨o, _, _, ho, _⟩ := F.ns
    rw [e, ho] at h2; cases h2
  · cases q : G.get? p.1 with
    | none => rfl
    | some o => rw [F.keep _ _ q] at h2; cases h2
theorem News.app {G h : Heap} {L : Addr} {a b : Led} (x : News G L h a) (y : News G L h b) : News G L h (a ++ b) := fun p hp => (List.mem_append.mp hp).elim (x p) (y p)
theorem Ok.low {k j : Nat} {A : Around} {env : Env} (h : Ok (k + 1) A) (hj : j ≤ k) : Ok j (A.deeper env) := (h.deep env).le hj
def EscIs : Option Nat → Value → Prop
  | none, ev => ev = .none
  | some e, ev => ∃ u, ev = .str ⟨#[e]⟩ u

/-- a test that is known, however it is come by -/
def JB (b : Bool) (s : Shared) (b' : Bool) (s₂ : Shared) : Prop := b' = b ∧ ∃ tk, s₂ = { s with toks := tk }
theorem join_test {prog : Program} {w : World} {A : Around} {s : Shared} {T : Sem Bool} {Q : Bool → Shared → Prop} (b : Bool)
    (run : wpAny (model prog w) A T (JB b s) (fun _ _ => False) s) (k : ∀ tk, Q b { s with toks := tk }) : wpAny (model prog w) A T Q (fun _ _ => False) s :=
  wpAny_mono run (fun b' s₂ hf => by obtain ⟨rfl, tk, rfl⟩ := hf; exact k tk) fun _ _ e => e
end
local macro_rules | `(tactic| walk_at "compareOp Eq str str") => `(tactic| (k_here; refine eq_sign (by walk_at "LIT") (by walk_at "LIT") ?_))
local macro_rules | `(tactic| walk_at "call ref") => `(tactic| (k_here; (with_reducible show wpAny _ _ (call (Value.ref 53) [Value.str (Str.mk _) _] _) _ _ _); (rename Fr _ _ _ _ => F9); (rename News _ _ _ _ => N9); (k_dflt (refine' foldA1_spec ?am ?ok ?_; (case am => exact Amb.up (by assumption) F9.keep); (case ok => (refine Ok.le (Ok.deep ‹Ok _ _› _) ?_; decide)))); intro h' tk' t1' hs'; (have F' := F9.keeps hs'); (have N' := N9.grown hs'); clear F9 N9))
local macro_rules | `(tactic| walk_at "SUBS") => `(tactic| (k_here; k_dflt (refine' item_nxt ?n ?x ?k ?_; (case x => with_reducible assumption); (case n => omega); (case k => first | rfl | omega); k_whole)))
local macro_rules | `(tactic| walk_at "SUBS") => `(tactic| (k_here; k_dflt (refine' item_nxt2 ?n ?x ?k ?_; (case x => with_reducible assumption); (case n => omega); (case k => first | rfl | omega); k_whole)))
section
section
local macro_rules | `(tactic| walk_at "exec If") => `(tactic| (k_here; (with_reducible show wpAny _ _ (exec (Stmt.If (Expr.BoolOp _ _ _) _ _ _) _) _ _ _); refine halt_intro ?_))
inductive LpInv (w : World) (esc : Option Nat) (x : Str) (t : Tok) (ev : Value) (a : Addr) (n : Nat) (m : Str → Option Value) (news : List (Addr × Obj)) : Prop
  | mk (at_ : Nat) (t2 : Tok) (vs : List Value) (k : Nat) (tl : Led) (done : List PD) (q1 : news = (a, listOf vs.toArray k) :: tl) (q2 : (∀ p ∈ tl, p.1 ≠ a)) (q3 : All2 (PartAt w tl) vs done) (q4 : vs.length ≤ at_) (q5 : at_ ≤ x.cps.size) (q6 : likeP esc x.cps.toList = (likeP esc (x.cps.toList.drop at_)).map (done ++ ·)) (q7 : Has m [(Str.ofString "pattern", .str x t), (Str.ofString "escape", ev), (Str.ofString "parts", .ref a), (Str.ofString "at", .int (at_ : Nat) t2)]) (q8 : n = x.cps.size - at_) : LpInv w esc x t ev a n m news
theorem likeParts_spec {w : World} {A : Around} {s : Shared} {x : Str} {t : Tok} {esc : Option Nat} {ev : Value} (hev : EscIs esc ev) (am : Amb w s.heap) (ok : Ok 3 A) (hT : x.cps.size ≤ 1000) {Q : Value → Shared → Prop} {E : Value → Shared → Prop}
  (ret : ∀ h' tk v tl, Sub s.heap h' → NewLed s.heap h' tl → ResParts w tl v (likeP esc x.cps.toList) → Q v { s with heap := h', toks := tk }) :
    wpAny (model PySem.Challenge.rw_nt0095_01.row.prog w) A (call (.ref 96) [.str x t, ev] []) Q E s := by
  refine wpAny_noRaise ?_
  have X := am.X
  obtain ⟨p, l, mg, mb, T⟩ := am.T
  have hT2 : x.cps.toList.length = x.cps.size := by simp
  refine' enterP (binds := [(Str.ofString "pattern", .str x t), (Str.ofString "escape", ev)]) ?k1 ?k2 ?k3 ?k4 ?k5 ?k6 ?_ ?c1 ?c2 ?c3 ?c4
  walk_at "ENTERP"
  intro L h₁ hL F N
  (try k_fold)
  k_steps
  refine halt_intro' ?_
  rename_i a _ _ _ _ _ _ _ F2 N2

  (try k_fold)
  refine while_inv (LpInv w esc x t ev a) _ F2 N2
    ⟨0, _, [], _, [], [], rfl, (fun _ hp => nomatch hp), .nil, Nat.le_refl _, Nat.zero_le _, by simp, ⟨rfl, rfl, rfl, rfl, trivial⟩, rfl⟩ ?_
  rintro n m news h tk ⟨at_, t2, vs, k, tl, done, rfl, hoff, hvs, hvl, hle, hres, hm, rfl⟩ F3 N3
  have F4 := frMany hm F3
  clear F3 F2 N2
  by_cases hat : at_ < x.cps.size
  · obtain ⟨c, hc⟩ : ∃ c, x.cps[at_]? = some c := ⟨x.cps[at_], by simp [hat]⟩
    have hcl : x.cps.toList[at_]? = some c := by rw [Array.getElem?_toList]; exact hc
    rw [drop_cons hcl] at hres
    by_cases hce : esc = some c
    · subst hce
      obtain ⟨u, rfl⟩ := hev
      by_cases hlast : at_ + 1 = x.cps.size
      · have hnil : x.cps.toList.drop (at_ + 1) = [] := List.drop_eq_nil_of_le (by omega)
        rw [hnil, likeP_end] at hres
        (try k_fold)
        k_steps
        refine halt_intro' (wpAny_If ?_)
        (try k_fold)
        k_steps
        (rename Fr _ _ _ _ => F')
        refine ret _ _ _ [] F'.keep (fun _ hp => nomatch hp) ?_
        rw [hres]
        exact rfl
      · obtain ⟨d, hd⟩ : ∃ d, x.cps[at_ + 1]? = some d := ⟨x.cps[at_ + 1]'(by omega), by simp⟩
        have hdl : x.cps.toList[at_ + 1]? = some d := by rw [Array.getElem?_toList]; exact hd
        rw [drop_cons hdl, likeP_esc, map_snoc] at hres
        have hdn : Nxt x (at_ + 1) d := hd
        clear hd
        (try k_fold)
        k_steps
        refine halt_intro' (wpAny_If ?_)
        (try k_fold)
        k_steps
        rename_i l1 l2 _ _ F' N'
        obtain ⟨N2, off2, hv2⟩ := turn_part (pd := .sign (foldC d)) N' l1 l2 hoff hvs ⟨_, _, _, _, _, _, _, _, rfl, .head _, .tail _ (.head _)⟩
        exact ⟨_, _, _, _, _, (by omega : x.cps.size - (at_ + 2) < x.cps.size - at_), rfl, F', N2, at_ + 2, _, _, _, _, _, rfl, off2, hv2, by simp; omega, by omega, hres, ⟨rfl, rfl, rfl, rfl, trivial⟩, rfl⟩
    · rw [likeP_plain hce, map_snoc] at hres
      (try k_fold)
      k_steps
      refine halt_intro' (wpAny_If (join_test false ?_ fun tk => ?_))
      · cases esc with
        | none =>
          cases (show ev = .none from hev)
          (try k_fold)
          k_steps
          exact ⟨rfl, _, rfl⟩
        | some e =>
          obtain ⟨u, rfl⟩ := hev
          have hce : ¬ c = e := fun q => hce (by rw [q])
          (try k_fold)
          k_steps
          exact ⟨rfl, _, rfl⟩
      simp only [Bool.false_eq_true, if_false]
      k_steps
      · (rename c = 37 => e1)
        rw [show likeC c = .any from by simp [likeC, e1]] at hres
        rename_i l1 l2 _ _ F' N'
        obtain ⟨N2, off2, hv2⟩ := turn_part (pd := .any) N' l1 l2 hoff hvs ⟨_, _, _, _, _, _, _, rfl, .head _, .tail _ (.head _)⟩
        exact ⟨_, _, _, _, _, (by omega : x.cps.size - (at_ + 1) < x.cps.size - at_), rfl, F', N2, at_ + 1, _, _, _, _, _, rfl, off2, hv2, by simp; omega, by omega, hres, ⟨rfl, rfl, rfl, rfl, trivial⟩, rfl⟩
      · (rename ¬ c = 37 => e1); (rename c = 95 => e2)
        rw [show likeC c = .one from by simp [likeC, e2]] at hres
        rename_i l1 l2 _ _ F' N'
        obtain ⟨N2, off2, hv2⟩ := turn_part (pd := .one) N' l1 l2 hoff hvs ⟨_, _, _, _, _, _, _, rfl, .head _, .tail _ (.head _)⟩
        exact ⟨_, _, _, _, _, (by omega : x.cps.size - (at_ + 1) < x.cps.size - at_), rfl, F', N2, at_ + 1, _, _, _, _, _, rfl, off2, hv2, by simp; omega, by omega, hres, ⟨rfl, rfl, rfl, rfl, trivial⟩, rfl⟩
      · (rename ¬ c = 37 => e1); (rename ¬ c = 95 => e2)
        rw [show likeC c = .sign (foldC c) from by simp [likeC, e1, e2]] at hres
        rename_i l1 l2 _ _ F' N'
        obtain ⟨N2, off2, hv2⟩ := turn_part (pd := .sign (foldC c)) N' l1 l2 hoff hvs ⟨_, _, _, _, _, _, _, _, rfl, .head _, .tail _ (.head _)⟩
        exact ⟨_, _, _, _, _, (by omega : x.cps.size - (at_ + 1) < x.cps.size - at_), rfl, F', N2, at_ + 1, _, _, _, _, _, rfl, off2, hv2, by simp; omega, by omega, hres, ⟨rfl, rfl, rfl, rfl, trivial⟩, rfl⟩
  · have hdone : x.cps.toList.drop at_ = [] := List.drop_eq_nil_of_le (by omega)
    rw [hdone] at hres
    (try k_fold)
    k_steps
    refine ret _ _ _ ((a, listOf vs.toArray k) :: tl) F4.keep (NewLed.of N3) ?_
    rw [hres]
    simp only [likeP, Option.map_some, List.append_nil]
    exact ⟨a, vs, k, rfl, .head _, hvs.mono fun v p => PartAt.mono (lsub_cons (lsub_refl _))⟩
end
end
section
theorem like_spec {w : World} {A : Around} {s : Shared} {x y : Str} {t u : Tok} {esc : Option Nat} {ev : Value} (hev : EscIs esc ev) (am : Amb w s.heap) (ok : Ok 4 A) (hx : x.cps.size ≤ 1000) (hy : y.cps.size ≤ 1000) {Q : Value → Shared → Prop} {E : Value → Shared → Prop}
  (ret : ∀ h' tk b, Sub s.heap h' → (b = true ↔ ∃ ps, likeP esc x.cps.toList = some ps ∧ Mt ps (y.cps.toList.map foldC)) → Q (.bool b) { s with heap := h', toks := tk }) :
    wpAny (model PySem.Challenge.rw_nt0095_01.row.prog w) A (call (.ref 104) [.str x t, .str y u, ev] []) Q E s := by
  refine wpAny_noRaise ?_
  have X := am.X
  obtain ⟨p, l, mg, mb, T⟩ := am.T
  refine' enterP (binds := [(Str.ofString "pattern", .str x t), (Str.ofString "text", .str y u), (Str.ofString "escape", ev)]) ?k1 ?k2 ?k3 ?k4 ?k5 ?k6 ?_ ?c1 ?c2 ?c3 ?c4
  walk_at "ENTERP"
  intro L h₁ hL F N
  obtain ⟨esc0, he0⟩ : ∃ e, e = esc := ⟨_, rfl⟩
  rw [← he0] at ret
  have hev0 : EscIs esc0 ev := by rw [he0]; exact hev
  cases esc
  case' none =>
    have hevn : ev = .none := hev
    subst hevn
    (try k_fold)
    k_steps
  case' some e =>
    obtain ⟨u', rfl⟩ := hev
    (try k_fold)
    k_steps
  all_goals
    refine likeParts_spec hev0 (by exact am.up F.keep) (ok.low (by decide)) hx (fun h' tk' v tl hs hN hR => ?_)
    have N' := news_of_new F hN
    have F' := F.keeps hs
    clear F N
    cases hlp : likeP esc0 x.cps.toList with
    | none =>
      rw [hlp] at hR ret
      have hv : v = .none := hR
      subst hv
      k_steps
      (rename Fr _ _ _ _ => F3)
      exact ret _ _ false F3.keep (by simp)
    | some ps =>
      rw [hlp] at hR ret
      obtain ⟨r, vs, n, rfl, hr, hvs⟩ := hR
      have hl1 := likeP_length _ _ (Nat.le_refl _) _ hlp
      have hl2 := hvs.length
      have hl3 : x.cps.toList.length = x.cps.size := by simp
      k_steps
      (rename Fr _ _ _ _ => F3); (rename News _ _ _ _ => N3)
      refine foldA_spec hy (by exact am.up F3.keep) (ok.low (by decide)) (fun h2 tk2 t2 hs2 => ?_)
      have F4 := F3.keeps hs2
      have N4 := N3.grown hs2
      clear F3 N3
      k_steps
      refine matches_spec (tl := tl) (by exact am.up F4.keep) (ok.low (by decide)) (by exact fun p hp => (N4 p hp).1) hr hvs (by omega) (by simpa using hy) (fun h5 tk5 b hs5 hb => ?_)
      exact ret _ _ b (F4.keeps hs5).keep (by rw [hb]; simp)
end
section
def lotLoop : List Nat → Option (List (Nat × Nat) × List Nat)
  | [] => none
  | [c] => if c = 93 then some ([], []) else none
  | [c, d] => if c = 93 then some ([], [d]) else if d = 93 then some ([(c, c)], []) else none
  | c :: d :: e :: r => if c = 93 then some ([], d :: e :: r) else if d = 45 ∧ e ≠ 93 then (lotLoop r).map (fun q => ((c, e) :: q.1, q.2)) else (lotLoop (d :: e :: r)).map (fun q => ((c, c) :: q.1, q.2))
theorem lotLoop_end (r : List Nat) : lotLoop (93 :: r) = some ([], r) := by
  cases r with
  | nil => simp [lotLoop]
  | cons d r =>
    cases r with
    | nil => simp [lotLoop]
    | cons e r => simp [lotLoop]
theorem lotLoop_range {c e : Nat} (hc : c ≠ 93) (he : e ≠ 93) (r : List Nat) : lotLoop (c :: 45 :: e :: r) = (lotLoop r).map (fun q => ((c, e) :: q.1, q.2)) := by
  rw [lotLoop, if_neg hc, if_pos ⟨rfl, he⟩]
theorem lotLoop_one {c : Nat} (hc : c ≠ 93) {r : List Nat} (h : ∀ e r', r = 45 :: e :: r' → e = 93) : lotLoop (c :: r) = (lotLoop r).map (fun q => ((c, c) :: q.1, q.2)) := by
  cases r with
  | nil => simp [lotLoop, hc]
  | cons d r =>
    cases r with
    | nil =>
      by_cases hd : d = 93
      · simp [lotLoop, hc, hd]
      · simp [lotLoop, hc, hd]
    | cons e r =>
      rw [lotLoop, if_neg hc, if_neg]
      rintro ⟨rfl, he⟩
      exact he (h e r rfl)
/-- behind the '^' -/
def lotAt2 (neg : Bool) (q : List Nat) : Option (List (Nat × Nat) × Bool × List Nat) :=
  if q.head? = some 93 then (lotLoop q.tail).map (fun z => ((93, 93) :: z.1, neg, z.2)) else (lotLoop q).map (fun z => (z.1, neg, z.2))
def lotAt (q : List Nat) : Option (List (Nat × Nat) × Bool × List Nat) :=
  if q.head? = some 94 then lotAt2 true q.tail else lotAt2 false q

def LotRes (w : World) (tl : Led) (v : Value) (p : List Nat) (i : Nat) : Option (List (Nat × Nat) × Bool × List Nat) → Prop
  | none => v = .none
  | some (rs, neg, rest) => ∃ T n pv j t, v = .ref T ∧ (T, tupOf [pv, .int (j : Nat) t] n) ∈ tl ∧ PartAt w tl pv (.lot rs neg) ∧ j ≤ p.length ∧ i < j ∧ p.drop j = rest
theorem lotAt_hat {p : List Nat} {i : Nat} (h : p[i]? = some 94) : lotAt (p.drop i) = lotAt2 true (p.drop (i + 1)) := by
  unfold lotAt
  rw [List.head?_drop, h, if_pos rfl, List.tail_drop]
theorem lotAt_no {p : List Nat} {i : Nat} (h : p[i]? ≠ some 94) : lotAt (p.drop i) = lotAt2 false (p.drop i) := by
  unfold lotAt
  rw [List.head?_drop, if_neg h]
theorem lotAt2_brk {neg : Bool} {p : List Nat} {i : Nat} (h : p[i]? = some 93) : lotAt2 neg (p.drop i) = (lotLoop (p.drop (i + 1))).map (fun z => ([(93, 93)] ++ z.1, neg, z.2)) := by
  unfold lotAt2
  rw [List.head?_drop, h, if_pos rfl, List.tail_drop]
  rfl
theorem lotAt2_no {neg : Bool} {p : List Nat} {i : Nat} (h : p[i]? ≠ some 93) : lotAt2 neg (p.drop i) = (lotLoop (p.drop i)).map (fun z => ([] ++ z.1, neg, z.2)) := by
  unfold lotAt2
  rw [List.head?_drop, if_neg h]
  rfl
theorem lot_snoc {o : Option (List (Nat × Nat) × List Nat)} {a : Nat × Nat} {done : List (Nat × Nat)} {neg : Bool} : (o.map (fun q => (a :: q.1, q.2))).map (fun z => (done ++ z.1, neg, z.2)) = o.map (fun z => ((done ++ [a]) ++ z.1, neg, z.2)) := by cases o <;> simp
/-- where two ways meet -/
def JEnd (G : Heap) (L : Addr) (P : (Str → Option Value) → Led → Prop) (s : Shared) (f : Flow) (s₂ : Shared) : Prop :=
  f = .next ∧ ∃ h tk m news, s₂ = { s with heap := h, toks := tk } ∧ Fr G L h m ∧ News G L h news ∧ P m news
theorem join_at {prog : Program} {w : World} {A : Around} {s : Shared} {env : Env} {G : Heap} {L : Addr} {st : Stmt} {Q : Flow → Shared → Prop} (P : (Str → Option Value) → Led → Prop)
    (run : wpAny (model prog w) A (exec st env) (JEnd G L P s) (fun _ _ => False) s) (k : ∀ m news h tk, P m news → Fr G L h m → News G L h news → Q .next { s with heap := h, toks := tk }) :
    wpAny (model prog w) A (exec st env) Q (fun _ _ => False) s :=
  wpAny_mono run (fun f s₂ hf => by obtain ⟨rfl, h, tk, m, news, rfl, F, N, hp⟩ := hf; exact k m news h tk hp F N) fun _ _ e => e
theorem ne_sign {prog : Program} {w : World} {A : Around} {E : Value → Shared → Prop} {s : Shared} {x y : Str} {t u : Tok} {a b : Nat} {Q : Value → Shared → Prop} (hx : x = ⟨#[a]⟩) (hy : y = ⟨#[b]⟩) (h : Q (.bool (decide (a ≠ b))) s) :
    wpAny (model prog w) A (compareOp .NotEq (.str x t) (.str y u)) Q E s := by
  refine P.ne_str ?_
  have e : (x.cps.toList != y.cps.toList) = decide (a ≠ b) := by
    subst hx hy
    show ([a] != [b]) = _
    by_cases h : a = b
    · subst h; simp
    · simp [bne, h]
  rw [e]; exact h
theorem turn_pair {G h : Heap} {L a T : Addr} {k : Nat} {vs : List Value} {tl : Led} {done : List (Nat × Nat)} {pr : Nat × Nat} {o : Obj} {v : Value} (N : News G L h ((T, o) :: (a, listOf (vs.toArray.push v) (k + 1)) :: tl))
    (l1 : @LT.lt Nat _ a T) (hoff : ∀ p ∈ tl, p.1 ≠ a) (hvs : All2 (PairAt tl) vs done) (hp : PairAt [(T, o)] v pr) :
    News G L h ((a, listOf (vs ++ [v]).toArray (k + 1)) :: (T, o) :: tl) ∧ (∀ p ∈ (T, o) :: tl, p.1 ≠ a) ∧ All2 (PairAt ((T, o) :: tl)) (vs ++ [v]) (done ++ [pr]) := by
  rw [List.push_toArray] at N
  refine ⟨?_, ?_, ?_⟩
  · intro p hp
    rcases List.mem_cons.mp hp with rfl | hp
    · exact N _ (.tail _ (.head _))
    · rcases List.mem_cons.mp hp with rfl | hp
      · exact N _ (.head _)
      · exact N _ (.tail _ (.tail _ hp))
  · intro p hp
    rcases List.mem_cons.mp hp with rfl | hp
    · exact Nat.ne_of_gt l1
    · exact hoff p hp
  · refine All2.snoc (hvs.mono fun v p => PairAt.mono (lsub_cons (lsub_refl _))) (hp.mono ?_)
    intro p hp
    rw [List.mem_singleton.mp hp]; exact .head _
end
local macro_rules | `(tactic| walk_at "compareOp NotEq str str") => `(tactic| (k_here; refine ne_sign (by walk_at "LIT") (by walk_at "LIT") ?_))
section
section
local macro_rules | `(tactic| walk_at "exec If") => `(tactic| (k_here; refine halt_intro ?_))
def LaJ1 (x : Str) (t : Tok) (i : Nat) (m : Str → Option Value) (news : List (Addr × Obj)) : Prop :=
  news = [] ∧ ∃ j tj neg, Has m [(Str.ofString "pattern", .str x t), (Str.ofString "at", .int (j : Nat) tj), (Str.ofString "negated", .bool neg)] ∧ lotAt (x.cps.toList.drop i) = lotAt2 neg (x.cps.toList.drop j) ∧ i ≤ j ∧ j ≤ x.cps.size
inductive LaJ2 (x : Str) (t : Tok) (i : Nat) (neg : Bool) (a : Addr) (m : Str → Option Value) (news : List (Addr × Obj)) : Prop
  | mk (j2 : Nat) (tj : Tok) (vs : List Value) (n : Nat) (tl : Led) (done : List (Nat × Nat)) (q1 : news = (a, listOf vs.toArray n) :: tl) (q2 : (∀ p ∈ tl, p.1 ≠ a)) (q3 : All2 (PairAt tl) vs done) (q4 : vs.length ≤ j2) (q5 : Has m [(Str.ofString "pattern", .str x t), (Str.ofString "at", .int (j2 : Nat) tj), (Str.ofString "negated", .bool neg), (Str.ofString "ranges", .ref a)]) (q6 : lotAt (x.cps.toList.drop i) = (lotLoop (x.cps.toList.drop j2)).map (fun z => (done ++ z.1, neg, z.2))) (q7 : i ≤ j2) (q8 : j2 ≤ x.cps.size) : LaJ2 x t i neg a m news
inductive LaW (x : Str) (t : Tok) (i : Nat) (neg : Bool) (a : Addr) (nn : Nat) (m : Str → Option Value) (news : List (Addr × Obj)) : Prop
  | mk (j2 : Nat) (tj : Tok) (vs : List Value) (n : Nat) (tl : Led) (done : List (Nat × Nat)) (q1 : nn = x.cps.size - j2) (q2 : news = (a, listOf vs.toArray n) :: tl) (q3 : (∀ p ∈ tl, p.1 ≠ a)) (q4 : All2 (PairAt tl) vs done) (q5 : vs.length ≤ j2) (q6 : Has m [(Str.ofString "pattern", .str x t), (Str.ofString "at", .int (j2 : Nat) tj), (Str.ofString "negated", .bool neg), (Str.ofString "ranges", .ref a)]) (q7 : lotAt (x.cps.toList.drop i) = (lotLoop (x.cps.toList.drop j2)).map (fun z => (done ++ z.1, neg, z.2))) (q8 : i ≤ j2) (q9 : j2 ≤ x.cps.size) : LaW x t i neg a nn m news
theorem lotAt_spec {w : World} {A : Around} {s : Shared} {x : Str} {t ti : Tok} {i : Nat} (hi : i ≤ x.cps.size) (am : Amb w s.heap) (ok : Ok 2 A) (hT : x.cps.size ≤ 1000) {Q : Value → Shared → Prop} {E : Value → Shared → Prop}
  (ret : ∀ h' tk v tl, Sub s.heap h' → NewLed s.heap h' tl → LotRes w tl v x.cps.toList i (lotAt (x.cps.toList.drop i)) → Q v { s with heap := h', toks := tk }) :
    wpAny (model PySem.Challenge.rw_nt0095_01.row.prog w) A (call (.ref 111) [.str x t, .int (i : Nat) ti] []) Q E s := by
  refine wpAny_noRaise ?_
  have X := am.X
  obtain ⟨p, l, mg, mb, T⟩ := am.T
  have hT2 : x.cps.toList.length = x.cps.size := by simp
  refine' enterP (binds := [(Str.ofString "pattern", .str x t), (Str.ofString "at", .int (i : Nat) ti)]) ?k1 ?k2 ?k3 ?k4 ?k5 ?k6 ?_ ?c1 ?c2 ?c3 ?c4
  walk_at "ENTERP"
  intro L h₁ hL F N
  (try k_fold)
  k_steps
  refine halt_intro' ?_
  (rename Fr _ _ _ _ => F2); (rename News _ _ _ _ => N2)
  refine join_at (G := s.heap) (L := L) (LaJ1 x t i) ?_ ?_
  · refine wpAny_If ?_
    by_cases hlt : i < x.cps.size
    · obtain ⟨c, hc⟩ : ∃ c, x.cps[i]? = some c := ⟨x.cps[i], by simp [hlt]⟩
      have hcl : x.cps.toList[i]? = some c := by rw [Array.getElem?_toList]; exact hc
      by_cases h94 : c = 94
      · subst h94
        (try k_fold)
        k_steps
        (rename Fr _ _ _ _ => F'); (rename News _ _ _ _ => N')
        exact ⟨rfl, _, _, _, _, rfl, F', N', rfl, i + 1, _, true, ⟨rfl, rfl, rfl, trivial⟩, lotAt_hat hcl, by omega, by omega⟩
      · (try k_fold)
        k_steps
        (rename Fr _ _ _ _ => F'); (rename News _ _ _ _ => N')
        exact ⟨rfl, _, _, _, _, rfl, F', N', rfl, i, _, false, ⟨rfl, rfl, rfl, trivial⟩, lotAt_no (by rw [hcl]; simpa using h94), by omega, by omega⟩
    · (try k_fold)
      k_steps
      (rename Fr _ _ _ _ => F'); (rename News _ _ _ _ => N')
      exact ⟨rfl, _, _, _, _, rfl, F', N', rfl, i, _, false, ⟨rfl, rfl, rfl, trivial⟩, lotAt_no (by rw [List.getElem?_eq_none (by omega)]; simp), by omega, by omega⟩
  clear F2 N2
  rintro m news h tk ⟨rfl, j, tj, neg, hm, hlot, hij, hj⟩ F3 N3
  have F4 := frMany hm F3
  clear F3
  (try k_fold)
  k_steps
  refine halt_intro' ?_
  rename_i a _ l1 _ F2 N2
  clear l1
  refine join_at (G := s.heap) (L := L) (LaJ2 x t i neg a) ?_ ?_
  · refine wpAny_If ?_
    by_cases hlt : j < x.cps.size
    · obtain ⟨c, hc⟩ : ∃ c, x.cps[j]? = some c := ⟨x.cps[j], by simp [hlt]⟩
      have hcl : x.cps.toList[j]? = some c := by rw [Array.getElem?_toList]; exact hc
      by_cases h93 : c = 93
      · subst h93
        (try k_fold)
        k_steps
        rename_i l1 _ _ _ F' N'
        rw [lit_rb] at N'
        obtain ⟨N2, off2, hv2⟩ := turn_pair (vs := []) (k := 0) (done := []) (pr := (93, 93)) N' l1 (fun _ hp => nomatch hp) .nil ⟨_, _, _, _, rfl, .head _⟩
        exact ⟨rfl, _, _, _, _, rfl, F', N2, j + 1, _, _, _, _, _, rfl, off2, hv2, by simp, ⟨rfl, rfl, rfl, rfl, trivial⟩, by rw [hlot, lotAt2_brk hcl]; rfl, by omega, by omega⟩
      · (try k_fold)
        k_steps
        (rename Fr _ _ _ _ => F'); (rename News _ _ _ _ => N')
        exact ⟨rfl, _, _, _, _, rfl, F', N', j, _, [], 0, [], [], rfl, fun _ hp => (nomatch hp), .nil, by simp, ⟨rfl, rfl, rfl, rfl, trivial⟩, by rw [hlot, lotAt2_no (by rw [hcl]; simpa using h93)], by omega, by omega⟩
    · (try k_fold)
      k_steps
      (rename Fr _ _ _ _ => F'); (rename News _ _ _ _ => N')
      exact ⟨rfl, _, _, _, _, rfl, F', N', j, _, [], 0, [], [], rfl, fun _ hp => (nomatch hp), .nil, by simp, ⟨rfl, rfl, rfl, rfl, trivial⟩, by rw [hlot, lotAt2_no (by rw [List.getElem?_eq_none (by omega)]; simp)], by omega, by omega⟩
  clear F2 N2 hm hlot hij hj
  rintro m news h tk ⟨j, tj, vs, n, tl, done, rfl, hoff, hvs, hvl, hm, hlot, hij, hj⟩ F3 N3
  have F4 := frMany hm F3
  clear F3
  (try k_fold)
  k_steps
  refine halt_intro' ?_
  (try k_fold)
  refine while_inv (LaW x t i neg a) _ F4 N3
    ⟨j, _, _, _, _, _, rfl, rfl, hoff, hvs, hvl, ⟨rfl, rfl, rfl, rfl, trivial⟩, hlot, hij, hj⟩ ?_
  clear hm hlot hij hj hoff hvs hvl F4 N3
  rintro nn m news h tk ⟨j, tj, vs, n, tl, done, rfl, rfl, hoff, hvs, hvl, hm, hlot, hij, hj⟩ F3 N3
  have F4 := frMany hm F3
  clear F3
  by_cases hlt : j < x.cps.size
  · obtain ⟨c, hc⟩ : ∃ c, x.cps[j]? = some c := ⟨x.cps[j], by simp [hlt]⟩
    have hcl : x.cps.toList[j]? = some c := by rw [Array.getElem?_toList]; exact hc
    by_cases h93 : c = 93
    · subst h93
      rw [drop_cons hcl, lotLoop_end] at hlot
      (try k_fold)
      k_steps
      refine halt_intro' (wpAny_If ?_)
      (try k_fold)
      k_steps
      (rename Fr _ _ _ _ => F'); (rename News _ _ _ _ => N')
      refine ret _ _ _ _ F'.keep (NewLed.of N') ?_
      rw [hlot]
      show LotRes w _ _ _ _ (some (done ++ [], neg, x.cps.toList.drop (j + 1)))
      rw [List.append_nil]
      exact ⟨_, _, _, j + 1, _, rfl, .head _, ⟨_, a, ⟨_, _, _, _, _, _, rfl, .tail _ (.head _), .tail _ (.tail _ (.head _))⟩, vs, n, .tail _ (.tail _ (.tail _ (.head _))), hvs.mono fun v p => PairAt.mono (lsub_cons (lsub_cons (lsub_cons (lsub_cons (lsub_refl _)))))⟩, by omega, by omega, rfl⟩
    · have one : (∀ e r', x.cps.toList.drop (j + 1) = 45 :: e :: r' → e = 93) → lotAt (x.cps.toList.drop i) = (lotLoop (x.cps.toList.drop (j + 1))).map (fun z => ((done ++ [(c, c)]) ++ z.1, neg, z.2)) := fun h => by
        rw [hlot, drop_cons hcl, lotLoop_one h93 h, lot_snoc]
      by_cases hR : ∃ e, x.cps[j + 1]? = some 45 ∧ x.cps[j + 2]? = some e ∧ e ≠ 93
      · obtain ⟨e, hd, he, he93⟩ := hR
        have h2 : j + 2 < x.cps.size := (Array.getElem?_eq_some_iff.mp he).1
        have hdl : x.cps.toList[j + 1]? = some 45 := by rw [Array.getElem?_toList]; exact hd
        have hel : x.cps.toList[j + 2]? = some e := by rw [Array.getElem?_toList]; exact he
        have hdn : Nxt x (j + 1) 45 := hd
        have hen : Nxt2 x (j + 2) e := he
        clear hd he
        rw [drop_cons hcl, drop_cons hdl, drop_cons hel, lotLoop_range h93 he93, lot_snoc] at hlot
        (try k_fold)
        k_steps
        refine halt_intro' (wpAny_If ?_)
        (try k_fold)
        k_steps
        rename_i l1 _ _ _ F' N'
        obtain ⟨N2, off2, hv2⟩ := turn_pair (pr := (c, e)) N' l1.1 hoff hvs ⟨_, _, _, _, rfl, .head _⟩
        exact ⟨_, _, _, _, _, (by omega : x.cps.size - (j + 3) < x.cps.size - j), rfl, F', N2, j + 3, _, _, _, _, _, rfl, rfl, off2, hv2, by simp; omega, ⟨rfl, rfl, rfl, rfl, trivial⟩, hlot, by omega, by omega⟩
      · have hl := one (fun e' r' hq => by
          have q1 : x.cps.toList[j + 1]? = some 45 := by
            have := congrArg (·[0]?) hq
            simpa using this
          have q2 : x.cps.toList[j + 2]? = some e' := by
            have := congrArg (·[1]?) hq
            simpa using this
          rw [Array.getElem?_toList] at q1 q2
          by_cases q : e' = 93
          · exact q
          · exact absurd ⟨e', q1, q2, q⟩ hR)
        clear one
        (try k_fold)
        k_steps
        refine halt_intro' (wpAny_If (join_test false ?_ fun tk => ?_))
        · clear hl hlot
          by_cases h2 : j + 2 < x.cps.size
          · obtain ⟨d, hd⟩ : ∃ d, x.cps[j + 1]? = some d := ⟨x.cps[j + 1]'(by omega), by simp⟩
            obtain ⟨e, he⟩ : ∃ e, x.cps[j + 2]? = some e := ⟨x.cps[j + 2]'(by omega), by simp⟩
            have hdn : Nxt x (j + 1) d := hd
            have hen : Nxt2 x (j + 2) e := he
            by_cases hd45 : d = 45
            · subst hd45
              have he93 : e = 93 := by
                by_cases q : e = 93
                · exact q
                · exact absurd ⟨e, hd, he, q⟩ hR
              clear hd he hR
              (try k_fold)
              k_steps
              exact ⟨by simp [he93], _, rfl⟩
            · clear hd he hR
              (try k_fold)
              k_steps
              exact ⟨by simp [hd45], _, rfl⟩
          · (try k_fold)
            k_steps
            exact ⟨by simp, _, rfl⟩
        simp only [Bool.false_eq_true, if_false]
        k_steps
        rename_i l1 _ _ F' N'
        obtain ⟨N2, off2, hv2⟩ := turn_pair (pr := (c, c)) N' l1.1 hoff hvs ⟨_, _, _, _, rfl, .head _⟩
        exact ⟨_, _, _, _, _, (by omega : x.cps.size - (j + 1) < x.cps.size - j), rfl, F', N2, j + 1, _, _, _, _, _, rfl, rfl, off2, hv2, by simp; omega, ⟨rfl, rfl, rfl, rfl, trivial⟩, hl, by omega, by omega⟩
  · have hnil : x.cps.toList.drop j = [] := List.drop_eq_nil_of_le (by omega)
    rw [hnil] at hlot
    (try k_fold)
    k_steps
    refine halt_intro' (wpAny_If ?_)
    (try k_fold)
    k_steps
    refine ret _ _ _ [] F4.keep (fun _ hp => nomatch hp) ?_
    rw [hlot]
    exact rfl
end
end
section
def globC (c : Nat) : PD := if c = 42 then PD.any else if c = 63 then PD.one else PD.sign c
inductive GlobR : List Nat → Option (List PD) → Prop
  | nil : GlobR [] (some [])
  | plain {c r o} : c ≠ 91 → GlobR r o → GlobR (c :: r) (o.map (globC c :: ·))
  | bad {r} : lotAt r = none → GlobR (91 :: r) none
  | lot {r rs neg rest o} : lotAt r = some (rs, neg, rest) → GlobR rest o → GlobR (91 :: r) (o.map (PD.lot rs neg :: ·))
theorem new_off {H h' : Heap} {tl : Led} {a : Addr} {o : Obj} (hN : NewLed H h' tl) (ha : H.get? a = some o) : ∀ p ∈ tl, p.1 ≠ a := fun p hp e => by
  have := (hN p hp).2
  rw [e, ha] at this; cases this
theorem turn_lot {w : World} {G h : Heap} {L a T : Addr} {k : Nat} {vs : List Value} {tl tl2 : Led} {done : List PD} {pd : PD} {o : Obj} {v : Value} (N : News G L h ((T, o) :: (a, listOf (vs ++ [v]).toArray (k + 1)) :: (tl2 ++ tl)))
    (hvs : All2 (PartAt w tl) vs done) (hp : PartAt w tl2 v pd) :
    News G L h ((a, listOf (vs ++ [v]).toArray (k + 1)) :: (tl2 ++ tl)) ∧ All2 (PartAt w (tl2 ++ tl)) (vs ++ [v]) (done ++ [pd]) := by
  exact ⟨fun p hp => N p (.tail _ hp), All2.snoc (hvs.mono fun v p => PartAt.mono fun p hp => List.mem_append_right _ hp) (hp.mono fun p hp => List.mem_append_left _ hp)⟩
end
section
inductive GpInv (w : World) (x : Str) (t : Tok) (a : Addr) (n : Nat) (m : Str → Option Value) (news : List (Addr × Obj)) : Prop
  | mk (at_ : Nat) (t2 : Tok) (vs : List Value) (k : Nat) (tl : Led) (done : List PD) (q1 : news = (a, listOf vs.toArray k) :: tl) (q2 : (∀ p ∈ tl, p.1 ≠ a)) (q3 : All2 (PartAt w tl) vs done) (q4 : vs.length ≤ at_) (q5 : at_ ≤ x.cps.size) (q6 : (∀ o, GlobR (x.cps.toList.drop at_) o → GlobR x.cps.toList (o.map (done ++ ·)))) (q7 : Has m [(Str.ofString "pattern", .str x t), (Str.ofString "parts", .ref a), (Str.ofString "at", .int (at_ : Nat) t2)]) (q8 : n = x.cps.size - at_) : GpInv w x t a n m news
theorem globParts_spec {w : World} {A : Around} {s : Shared} {x : Str} {t : Tok} (am : Amb w s.heap) (ok : Ok 3 A) (hT : x.cps.size ≤ 1000) {Q : Value → Shared → Prop} {E : Value → Shared → Prop}
  (ret : ∀ h' tk v tl o, Sub s.heap h' → NewLed s.heap h' tl → GlobR x.cps.toList o → (∀ ps, o = some ps → ps.length ≤ x.cps.size) → ResParts w tl v o → Q v { s with heap := h', toks := tk }) :
    wpAny (model PySem.Challenge.rw_nt0095_01.row.prog w) A (call (.ref 118) [.str x t] []) Q E s := by
  refine wpAny_noRaise ?_
  have X := am.X
  obtain ⟨p, l, mg, mb, T⟩ := am.T
  have hT2 : x.cps.toList.length = x.cps.size := by simp
  refine' enterP (binds := [(Str.ofString "pattern", .str x t)]) ?k1 ?k2 ?k3 ?k4 ?k5 ?k6 ?_ ?c1 ?c2 ?c3 ?c4
  walk_at "ENTERP"
  intro L h₁ hL F N
  (try k_fold)
  k_steps
  refine halt_intro' ?_
  rename_i a _ _ _ _ _ _ _ F2 N2
  (try k_fold)
  refine while_inv (GpInv w x t a) _ F2 N2
    ⟨0, _, [], _, [], [], rfl, (fun _ hp => nomatch hp), .nil, Nat.le_refl _, Nat.zero_le _, fun o ho => by simpa using ho, ⟨rfl, rfl, rfl, trivial⟩, rfl⟩ ?_
  rintro n m news h tk ⟨at_, t2, vs, k, tl, done, rfl, hoff, hvs, hvl, hle, hres, hm, rfl⟩ F3 N3
  have F4 := frMany hm F3
  clear F3 F2 N2
  by_cases hat : at_ < x.cps.size
  · obtain ⟨c, hc⟩ : ∃ c, x.cps[at_]? = some c := ⟨x.cps[at_], by simp [hat]⟩
    have hcl : x.cps.toList[at_]? = some c := by rw [Array.getElem?_toList]; exact hc
    rw [drop_cons hcl] at hres
    by_cases h91 : c = 91
    · subst h91
      (try k_fold)
      k_steps
      (rename Fr _ _ _ _ => F5); (rename News _ _ _ _ => N5)
      refine lotAt_spec (i := at_ + 1) (by omega) (by exact am.up F5.keep) (ok.low (by decide)) hT (fun h5 tk5 v tl2 hs5 hN5 hR5 => ?_)
      have hoff2 := new_off hN5 (N5 _ (.head _)).1
      have F6 := F5.keeps hs5
      have N6 := N5.grown hs5
      have N7 := news_of_new F5 hN5
      clear F5 N5
      cases hlp : lotAt (x.cps.toList.drop (at_ + 1)) with
      | none =>
        rw [hlp] at hR5
        have hv : v = .none := hR5
        subst hv
        k_steps
        (rename Fr _ _ _ _ => F')
        exact ret _ _ _ [] _ F'.keep (fun _ hp => nomatch hp) (hres _ (.bad hlp)) (fun ps e => by cases e) rfl
      | some q =>
        obtain ⟨rs, neg, rest⟩ := q
        rw [hlp] at hR5
        obtain ⟨T, n5, pv, j, t5, rfl, hT5, hpart, hj1, hj2, hj3⟩ := hR5
        have hoff3 : ∀ p ∈ tl2 ++ tl, p.1 ≠ a := fun p hp => (List.mem_append.mp hp).elim (hoff2 p) (hoff p)
        have hTa : (T : Nat) ≠ a := hoff2 _ hT5
        have N8 : News s.heap L h5 ((T, tupOf [pv, .int (j : Nat) t5] n5) :: (a, listOf vs.toArray k) :: (tl2 ++ tl)) := by
          intro p hp
          rcases List.mem_cons.mp hp with rfl | hp
          · exact N7 _ hT5
          · rcases List.mem_cons.mp hp with rfl | hp
            · exact N6 _ (.head _)
            · exact (List.mem_append.mp hp).elim (N7 p) fun h => N6 p (.tail _ h)
        clear N6 N7
        have hres2 : ∀ o, GlobR (x.cps.toList.drop j) o → GlobR x.cps.toList (o.map ((done ++ [PD.lot rs neg]) ++ ·)) := fun o ho => by
          rw [hj3] at ho
          have := hres _ (.lot hlp ho)
          rwa [map_snoc] at this
        clear hres
        k_steps
        (rename Fr _ _ _ _ => F'); (rename News _ _ _ _ => N')
        obtain ⟨N9, hv9⟩ := turn_lot N' hvs hpart
        exact ⟨_, _, _, _, _, (by omega : x.cps.size - j < x.cps.size - at_), rfl, F', N9, j, _, _, _, _, _, rfl, hoff3, hv9, by simp; omega, by omega, hres2, ⟨rfl, rfl, rfl, trivial⟩, rfl⟩
    · have hplain : ∀ o, GlobR (x.cps.toList.drop (at_ + 1)) o → GlobR x.cps.toList (o.map ((done ++ [globC c]) ++ ·)) := fun o ho => by
        have := hres _ (.plain h91 ho)
        rwa [map_snoc] at this
      (try k_fold)
      k_steps
      · (rename c = 42 => e1)
        rw [show globC c = .any from by simp [globC, e1]] at hplain
        rename_i l1 l2 _ F' N'
        obtain ⟨N2, off2, hv2⟩ := turn_part (pd := .any) N' l1 l2 hoff hvs ⟨_, _, _, _, _, _, _, rfl, .head _, .tail _ (.head _)⟩
        exact ⟨_, _, _, _, _, (by omega : x.cps.size - (at_ + 1) < x.cps.size - at_), rfl, F', N2, at_ + 1, _, _, _, _, _, rfl, off2, hv2, by simp; omega, by omega, hplain, ⟨rfl, rfl, rfl, trivial⟩, rfl⟩
      · (rename ¬ c = 42 => e1); (rename c = 63 => e2)
        rw [show globC c = .one from by simp [globC, e2]] at hplain
        rename_i l1 l2 _ F' N'
        obtain ⟨N2, off2, hv2⟩ := turn_part (pd := .one) N' l1 l2 hoff hvs ⟨_, _, _, _, _, _, _, rfl, .head _, .tail _ (.head _)⟩
        exact ⟨_, _, _, _, _, (by omega : x.cps.size - (at_ + 1) < x.cps.size - at_), rfl, F', N2, at_ + 1, _, _, _, _, _, rfl, off2, hv2, by simp; omega, by omega, hplain, ⟨rfl, rfl, rfl, trivial⟩, rfl⟩
      · (rename ¬ c = 42 => e1); (rename ¬ c = 63 => e2)
        rw [show globC c = .sign c from by simp [globC, e1, e2]] at hplain
        rename_i l1 l2 _ F' N'
        obtain ⟨N2, off2, hv2⟩ := turn_part (pd := .sign c) N' l1 l2 hoff hvs ⟨_, _, _, _, _, _, _, _, rfl, .head _, .tail _ (.head _)⟩
        exact ⟨_, _, _, _, _, (by omega : x.cps.size - (at_ + 1) < x.cps.size - at_), rfl, F', N2, at_ + 1, _, _, _, _, _, rfl, off2, hv2, by simp; omega, by omega, hplain, ⟨rfl, rfl, rfl, trivial⟩, rfl⟩
  · have hdone : x.cps.toList.drop at_ = [] := List.drop_eq_nil_of_le (by omega)
    rw [hdone] at hres
    (try k_fold)
    k_steps
    refine ret _ _ _ ((a, listOf vs.toArray k) :: tl) (some done) F4.keep (NewLed.of N3) ?_ ?_ ?_
    · have := hres _ .nil
      simpa using this
    · intro ps e
      cases e
      rw [← hvs.length]; omega
    · exact ⟨a, vs, k, rfl, .head _, hvs.mono fun v p => PartAt.mono (lsub_cons (lsub_refl _))⟩
end
section
theorem glob_spec {w : World} {A : Around} {s : Shared} {x y : Str} {t u : Tok} (am : Amb w s.heap) (ok : Ok 4 A) (hx : x.cps.size ≤ 1000) (hy : y.cps.size ≤ 1000) {Q : Value → Shared → Prop} {E : Value → Shared → Prop}
  (ret : ∀ h' tk b o, Sub s.heap h' → GlobR x.cps.toList o → (b = true ↔ ∃ ps, o = some ps ∧ Mt ps y.cps.toList) → Q (.bool b) { s with heap := h', toks := tk }) :
    wpAny (model PySem.Challenge.rw_nt0095_01.row.prog w) A (call (.ref 125) [.str x t, .str y u] []) Q E s := by
  refine wpAny_noRaise ?_
  have X := am.X
  obtain ⟨p, l, mg, mb, T⟩ := am.T
  refine' enterP (binds := [(Str.ofString "pattern", .str x t), (Str.ofString "text", .str y u)]) ?k1 ?k2 ?k3 ?k4 ?k5 ?k6 ?_ ?c1 ?c2 ?c3 ?c4
  walk_at "ENTERP"
  intro L h₁ hL F N
  (try k_fold)
  k_steps
  refine globParts_spec (by exact am.up F.keep) (ok.low (by decide)) hx (fun h' tk' v tl o hs hN hG hlen hR => ?_)
  have N' := news_of_new F hN
  have F' := F.keeps hs
  clear F N
  cases o with
  | none =>
    have hv : v = .none := hR
    subst hv
    k_steps
    (rename Fr _ _ _ _ => F3)
    exact ret _ _ false _ F3.keep hG (by simp)
  | some ps =>
    obtain ⟨r, vs, n, rfl, hr, hvs⟩ := hR
    have hl1 := hlen _ rfl
    have hl2 := hvs.length
    k_steps
    (rename Fr _ _ _ _ => F4); (rename News _ _ _ _ => N4)
    refine matches_spec (tl := tl) (by exact am.up F4.keep) (ok.low (by decide)) (by exact fun p hp => (N4 p hp).1) hr hvs (by omega) hy (fun h5 tk5 b hs5 hb => ?_)
    exact ret _ _ b _ (F4.keeps hs5).keep hG (by rw [hb]; simp)
end
section
def KeepBut (src : Addr) (h h' : Heap) : Prop := ∀ b o, b ≠ src → h.get? b = some o → h'.get? b = some o
def srcObj (a b : Int) (ta tb : Tok) (n : Nat) : Obj := listOf [.int a ta, .int b tb].toArray n
def SrcOk (a b : Int) : Prop := 0 ≤ a ∧ 0 ≤ b ∧ b < 2147483647
section
variable {w : World} {A : Around} {s : Shared} {name qual : Str} {params : Arguments} {body : List Stmt} {scope : Scope} {dV kV doc pm cdv ct oc : Value} {an od : Option Addr} {osl : Array (Option Value)} {f : Addr} {pos : List Value} {kw : List (Str × Value)} {binds : List (Str × Value)}
theorem enterS {Q : Value → Shared → Prop} {G : Heap} {src : Addr} {o : Obj}
    (am : Amb w G) (hG : Sub G s.heap) (hGs : G.get? src = none) (hsrc : s.heap.get? src = some o) (hroom : A.depth < recursionLimit)
    (ho : (hd.heap_39 w.params).lookup f = some ⟨oc, od, .func (fnOf name qual params body scope dV kV doc pm an cdv ct), osl⟩) (hcd : codeIn (hd.heap_39 w.params) cdv qual = true)
    (hbind : BindsTo s (fnOf name qual params body scope dV kV doc pm an cdv ct) ⟨pos, kw⟩ binds) (hloc : ∀ y ∈ binds, scope.names.lookup y.1 = some .local)
    (h : ∀ L h₁, L = s.heap.objs.size → Amb w (hideAll s.heap [src]) → Fr (hideAll s.heap [src]) L h₁ (fun y => binds.reverse.lookup y) → News (hideAll s.heap [src]) L h₁ [(src, o)] →
      wpAny (model PySem.Challenge.rw_nt0095_01.row.prog w) (A.deeper (envOf qual scope L f cdv)) (execs body (envOf qual scope L f cdv))
        (fun fl s' => Q (match fl with | .ret v => v | _ => .none) s') (fun _ _ => False)
        { s with heap := h₁, toks := s.toks + binds.length })
    (hco : scope.isCoroutine = false := by rfl) (hgen : scope.isGenerator = false := by rfl) (hk : scope.kind = .function := by rfl)
    (hcell : ∀ x ∈ scope.names, x.2 ≠ .cell := by decide) :
    wpAny (model PySem.Challenge.rw_nt0095_01.row.prog w) A (call (.ref f) pos kw) Q (fun _ _ => False) s := by
  have am2 : Amb w (hideAll s.heap [src]) := amb_hide am hG fun a ha => by rw [List.mem_singleton.mp ha]; exact hGs
  refine enter (G := hideAll s.heap [src]) (news := [(src, o)]) am2 (hide_sub _ _) (Nat.le_of_eq (hideAll_size _ _)) (fun p hp => ?_) hroom ho hcd hbind hloc
    (fun L h₁ e _ F N => wpAny_mono (h L h₁ e am2 F N) (fun _ _ q => q) fun _ _ q => q.elim) hco hgen hk hcell
  rw [List.mem_singleton.mp hp]
  exact ⟨hsrc, hideAll_none _ (.head _)⟩
end
theorem keep_of_hide {src : Addr} {h h' : Heap} (k : Sub (hideAll h [src]) h') : KeepBut src h h' := fun b o hb e => k b o (hideAll_get _ e fun q => hb (List.mem_singleton.mp q))
theorem fr_src {G h h' : Heap} {L src : Addr} {m : Str → Option Value} {o o' : Obj} {rest : Led} (F : Fr G L h m) (N : News G L h ((src, o) :: rest)) (off : ∀ p ∈ rest, p.1 ≠ src) (k : KeepBut src h h') (hs : h'.get? src = some o') :
    Fr G L h' m ∧ News G L h' ((src, o') :: rest) := by
  have hsL := (N _ (.head _)).2.1
  have hsG := (N _ (.head _)).2.2
  obtain ⟨oL, es, ep, hn, r⟩ := F.ns
  refine ⟨⟨⟨oL, es, ep, k _ _ (fun e => hsL e.symm) hn, r⟩, fun b o e => k _ _ (fun q => by rw [q, hsG] at e; cases e) (F.keep _ _ e), F.above⟩, fun p hp => ?_⟩
  rcases List.mem_cons.mp hp with rfl | hp
  · exact ⟨hs, hsL, hsG⟩
  · exact ⟨k _ _ (off p hp) (N p (.tail _ hp)).1, (N p (.tail _ hp)).2⟩
end
section
theorem mt_append {ps qs : List PD} {a b : List Nat} (h : Mt ps a) (k : Mt qs b) : Mt (ps ++ qs) (a ++ b) := by
  induction h with
  | nil => exact k
  | star0 _ ih => exact .star0 ih
  | star1 _ ih => exact .star1 ih
  | one hne ht _ ih => exact .one hne ht ih
theorem mt_split {qs : List PD} {r : List PD} {t : List Nat} (h : Mt r t) : ∀ ps, r = ps ++ qs → ∃ a b, t = a ++ b ∧ Mt ps a ∧ Mt qs b := by
  induction h with
  | nil =>
    intro ps e
    have e2 := List.append_eq_nil_iff.mp e.symm
    rw [e2.1, e2.2]; exact ⟨[], [], rfl, .nil, .nil⟩
  | star0 h ih =>
    intro ps e
    cases ps with
    | nil => exact ⟨[], _, rfl, .nil, by rw [← (show _ = qs from e)]; exact .star0 h⟩
    | cons p ps =>
      injection e with e1 e2
      obtain ⟨a, b, e3, h1, h2⟩ := ih ps e2
      exact ⟨a, b, e3, by rw [← e1]; exact .star0 h1, h2⟩
  | star1 h ih =>
    intro ps e
    cases ps with
    | nil => exact ⟨[], _, rfl, .nil, by rw [← (show _ = qs from e)]; exact .star1 h⟩
    | cons p ps =>
      obtain ⟨a, b, e3, h1, h2⟩ := ih (p :: ps) e
      injection e with e1 e2
      subst e1
      exact ⟨_ :: a, b, by rw [e3]; rfl, .star1 h1, h2⟩
  | one hne ht h ih =>
    intro ps e
    cases ps with
    | nil => exact ⟨[], _, rfl, .nil, by rw [← (show _ = qs from e)]; exact .one hne ht h⟩
    | cons p ps =>
      injection e with e1 e2
      obtain ⟨a, b, e3, h1, h2⟩ := ih ps e2
      exact ⟨_ :: a, b, by rw [e3]; rfl, by rw [← e1]; exact .one hne ht h1, h2⟩
theorem mt_any_all (t : List Nat) : Mt [.any] t := by
  induction t with
  | nil => exact .star0 .nil
  | cons c t ih => exact .star1 ih
theorem mt_nil_iff {t : List Nat} : Mt [] t ↔ t = [] := by
  constructor
  · intro h; cases h; rfl
  · rintro rfl; exact .nil
theorem mt_p1 {p : PD} (hp : p ≠ .any) {b : List Nat} : Mt [p] b ↔ ∃ c, b = [c] ∧ takesB p c = true := by
  constructor
  · intro h
    cases b with
    | nil => exact absurd h (mt_one_nil hp)
    | cons c b =>
      obtain ⟨h1, h2⟩ := (mt_one hp).mp h
      rw [mt_nil_iff] at h2
      exact ⟨c, by rw [h2], h1⟩
  · rintro ⟨c, rfl, h⟩; exact .one hp h .nil
theorem mt_snoc_any0 {ps : List PD} : Mt (ps ++ [.any]) [] ↔ Mt ps [] := by
  constructor
  · intro h
    obtain ⟨a, b, e, h1, _⟩ := mt_split h ps rfl
    rw [(List.append_eq_nil_iff.mp e.symm).1] at h1; exact h1
  · intro h
    have := mt_append h (mt_any_all [])
    simpa using this
theorem snoc_cases {α : Type} (l : List α) : l = [] ∨ ∃ i x, l = i ++ [x] := by
  rcases List.eq_nil_or_concat l with h | ⟨i, x, h⟩
  · exact .inl h
  · exact .inr ⟨i, x, by rw [h]; simp⟩
theorem snoc_inj {α : Type} {a b : List α} {x y : α} (h : a ++ [x] = b ++ [y]) : a = b ∧ x = y := by
  have := List.append_inj' h rfl
  exact ⟨this.1, by simpa using this.2⟩
theorem mt_snoc_any {ps : List PD} {t : List Nat} {c : Nat} : Mt (ps ++ [.any]) (t ++ [c]) ↔ (Mt (ps ++ [.any]) t ∨ Mt ps (t ++ [c])) := by
  constructor
  · intro h
    obtain ⟨a, b, e, h1, _⟩ := mt_split h ps rfl
    rcases snoc_cases b with rfl | ⟨i, x, rfl⟩
    · right; rw [List.append_nil] at e; rw [e]; exact h1
    · left
      rw [← List.append_assoc] at e
      rw [(snoc_inj e).1]
      exact mt_append h1 (mt_any_all i)
  · rintro (h | h)
    · obtain ⟨a, b, e, h1, _⟩ := mt_split h ps rfl
      rw [e, List.append_assoc]
      exact mt_append h1 (mt_any_all _)
    · have := mt_append h (mt_any_all [])
      simpa using this
theorem mt_snoc_one0 {ps : List PD} {p : PD} (hp : p ≠ .any) : ¬ Mt (ps ++ [p]) [] := by
  intro h
  obtain ⟨a, b, e, _, h2⟩ := mt_split h ps rfl
  rw [(List.append_eq_nil_iff.mp e.symm).2] at h2
  exact mt_one_nil hp h2
theorem mt_snoc_one {ps : List PD} {p : PD} (hp : p ≠ .any) {t : List Nat} {c : Nat} : Mt (ps ++ [p]) (t ++ [c]) ↔ (Mt ps t ∧ takesB p c = true) := by
  constructor
  · intro h
    obtain ⟨a, b, e, h1, h2⟩ := mt_split h ps rfl
    obtain ⟨d, rfl, hd⟩ := (mt_p1 hp).mp h2
    obtain ⟨rfl, rfl⟩ := snoc_inj e
    exact ⟨h1, hd⟩
  · rintro ⟨h1, h2⟩
    exact mt_append h1 ((mt_p1 hp).mpr ⟨c, rfl, h2⟩)
/-- a row of the table -/
def RowIs (ps : List PD) (tx : List Nat) (n : Nat) (bs : List Bool) : Prop := bs.length = n ∧ ∀ j b, bs[j]? = some b → (b = true ↔ Mt ps (tx.take j))
theorem row_start {tx : List Nat} : RowIs [] tx (tx.length + 1) (true :: List.replicate tx.length false) := by
  refine ⟨by simp, fun j b hb => ?_⟩
  rw [mt_nil_iff]
  cases j with
  | zero => simp at hb; simp [← hb]
  | succ j =>
    rw [List.getElem?_cons_succ, List.getElem?_replicate] at hb
    split at hb
    · injection hb with hb
      subst hb
      cases tx with
      | nil => simp at *
      | cons c r => simp
    · cases hb
theorem row_first {ps : List PD} {p : PD} {tx : List Nat} {b : Bool} (h : b = true ↔ Mt (ps ++ [p]) []) : RowIs (ps ++ [p]) tx 1 [b] := by
  refine ⟨rfl, fun j b' hb => ?_⟩
  cases j with
  | zero => simp at hb; subst hb; simpa using h
  | succ j => simp at hb
theorem row_snoc {ps : List PD} {tx : List Nat} {n : Nat} {bs : List Bool} {b : Bool} (h : RowIs ps tx n bs) (hb : b = true ↔ Mt ps (tx.take n)) : RowIs ps tx (n + 1) (bs ++ [b]) := by
  refine ⟨by simp [h.1], fun j b' hj => ?_⟩
  by_cases hlt : j < bs.length
  · rw [List.getElem?_append_left hlt] at hj
    exact h.2 j b' hj
  · rw [List.getElem?_append_right (by omega)] at hj
    have e : j = n := by
      have := h.1
      have h2 := (List.getElem?_eq_some_iff.mp hj).1
      simp at h2; omega
    subst e
    rw [h.1] at hj
    simp at hj
    rw [← hj]; exact hb
theorem take_snoc {tx : List Nat} {j c : Nat} (h : tx[j]? = some c) : tx.take (j + 1) = tx.take j ++ [c] := by rw [List.take_add_one, h]; rfl

theorem globR_fun {p : List Nat} {o : Option (List PD)} (h : GlobR p o) : ∀ o', GlobR p o' → o = o' := by
  induction h with
  | nil => intro o' h; cases h; rfl
  | plain hc _ ih =>
    intro o' h'
    cases h' with
    | plain _ h2 => rw [ih _ h2]
    | bad _ => exact absurd rfl hc
    | lot _ _ => exact absurd rfl hc
  | bad hl =>
    intro o' h'
    cases h' with
    | plain hc _ => exact absurd rfl hc
    | bad _ => rfl
    | lot hl2 _ => rw [hl] at hl2; cases hl2
  | lot hl _ ih =>
    intro o' h'
    cases h' with
    | plain hc _ => exact absurd rfl hc
    | bad hl2 => rw [hl] at hl2; cases hl2
    | lot hl2 h2 => rw [hl] at hl2; cases hl2; rw [ih _ h2]

def loopL : List Nat → List (Nat × Nat)
  | [] => []
  | [c] => [(c, c)]
  | [c, d] => [(c, c), (d, d)]
  | c :: d :: e :: r => if d = 45 then (c, e) :: loopL r else (c, c) :: loopL (d :: e :: r)
theorem loopL_range {c e : Nat} {r : List Nat} : loopL (c :: 45 :: e :: r) = (c, e) :: loopL r := by rw [loopL, if_pos rfl]
theorem loopL_one {c : Nat} {r : List Nat} (h : ∀ e r', r = 45 :: e :: r' → False) : loopL (c :: r) = (c, c) :: loopL r := by
  cases r with
  | nil => simp [loopL]
  | cons d r =>
    cases r with
    | nil => simp [loopL]
    | cons e r =>
      rw [loopL, if_neg]
      rintro rfl
      exact h e r rfl
theorem lotLoop_app {r : List Nat} : ∀ (n : Nat) (q : List Nat), q.length ≤ n → 93 ∉ q → lotLoop (q ++ 93 :: r) = some (loopL q, r) := by
  intro n
  induction n with
  | zero =>
    intro q hq h
    cases q with
    | nil => rw [List.nil_append, lotLoop_end]; rfl
    | cons c q => simp at hq
  | succ n ih =>
    intro q hq h
    cases q with
    | nil => rw [List.nil_append, lotLoop_end]; rfl
    | cons c q =>
      have hc : c ≠ 93 := fun e => h (by rw [e]; exact .head _)
      have h2 : 93 ∉ q := fun e => h (.tail _ e)
      simp only [List.length_cons] at hq
      by_cases hr : ∃ e r', q = 45 :: e :: r'
      · obtain ⟨e, r', rfl⟩ := hr
        have he : e ≠ 93 := fun q => h2 (by rw [q]; exact .tail _ (.head _))
        rw [loopL_range]
        show lotLoop (c :: 45 :: e :: (r' ++ 93 :: r)) = _
        rw [lotLoop_range hc he, ih r' (by simp at hq; omega) (fun e => h2 (.tail _ (.tail _ e)))]
        rfl
      · rw [loopL_one (fun e r' q => hr ⟨e, r', q⟩)]
        show lotLoop (c :: (q ++ 93 :: r)) = _
        rw [lotLoop_one hc, ih q (by omega) h2]
        · rfl
        · intro e r' heq
          cases q with
          | nil => simp at heq
          | cons d q =>
            injection heq with h3 h4
            subst h3
            cases q with
            | nil => injection h4 with h5 _; exact h5.symm
            | cons f q => exact absurd ⟨f, q, rfl⟩ hr
theorem lotLoop_none : ∀ (n : Nat) (q : List Nat), q.length ≤ n → 93 ∉ q → lotLoop q = none := by
  intro n
  induction n with
  | zero =>
    intro q hq h
    cases q with
    | nil => rfl
    | cons c q => simp at hq
  | succ n ih =>
    intro q hq h
    cases q with
    | nil => rfl
    | cons c q =>
      have hc : c ≠ 93 := fun e => h (by rw [e]; exact .head _)
      have h2 : 93 ∉ q := fun e => h (.tail _ e)
      simp only [List.length_cons] at hq
      by_cases hr : ∃ e r', q = 45 :: e :: r'
      · obtain ⟨e, r', rfl⟩ := hr
        have he : e ≠ 93 := fun q => h2 (by rw [q]; exact .tail _ (.head _))
        rw [lotLoop_range hc he, ih r' (by simp at hq; omega) (fun e => h2 (.tail _ (.tail _ e)))]
        rfl
      · rw [lotLoop_one hc, ih q (by omega) h2]
        · rfl
        · exact fun e r' q => absurd ⟨e, r', q⟩ hr
/-- how the law reads a lot's inside -/
def lotRs (rest : List Nat) : List (Nat × Nat) := if rest.head? = some 93 then (93, 93) :: loopL rest.tail else loopL rest
def lotNeg (inner : List Nat) : Bool := decide (inner.head? = some 94)
def lotRest (inner : List Nat) : List Nat := if inner.head? = some 94 then inner.tail else inner
theorem lotAt2_some {neg : Bool} {rest r : List Nat} (h1 : rest ≠ []) (h2 : 93 ∉ rest.tail) : lotAt2 neg (rest ++ 93 :: r) = some (lotRs rest, neg, r) := by
  cases rest with
  | nil => exact absurd rfl h1
  | cons c q =>
    simp only [List.tail_cons] at h2
    by_cases hc : c = 93
    · subst hc
      unfold lotAt2 lotRs
      rw [List.cons_append, List.head?_cons, if_pos rfl, List.head?_cons, if_pos rfl, List.tail_cons, List.tail_cons, lotLoop_app _ q (Nat.le_refl _) h2]
      rfl
    · have hne : ¬ (some c = some 93) := fun e => hc (Option.some.inj e)
      unfold lotAt2 lotRs
      rw [List.cons_append, List.head?_cons, if_neg hne, List.head?_cons, if_neg hne, ← List.cons_append, lotLoop_app _ (c :: q) (Nat.le_refl _) (fun e => by
        rcases List.mem_cons.mp e with e | e
        · exact hc e.symm
        · exact h2 e)]
      rfl
theorem lotAt2_none {neg : Bool} {q : List Nat} (h : 93 ∉ q.tail) : lotAt2 neg q = none := by
  cases q with
  | nil => rfl
  | cons c q =>
    simp only [List.tail_cons] at h
    by_cases hc : c = 93
    · subst hc
      unfold lotAt2
      rw [List.head?_cons, if_pos rfl, List.tail_cons, lotLoop_none _ q (Nat.le_refl _) h]; rfl
    · have hne : ¬ (some c = some 93) := fun e => hc (Option.some.inj e)
      unfold lotAt2
      rw [List.head?_cons, if_neg hne, lotLoop_none _ (c :: q) (Nat.le_refl _) (fun e => by
        rcases List.mem_cons.mp e with e | e
        · exact hc e.symm
        · exact h e)]
      rfl
end
section
theorem take_spec {w : World} {A : Around} {s : Shared} {G : Heap} {src : Addr} {a b : Int} {ta tb tt : Tok} {n : Nat} {top : Int} (am : Amb w G) (hG : Sub G s.heap) (hGs : G.get? src = none) (hsrc : s.heap.get? src = some (srcObj a b ta tb n)) (hab : SrcOk a b) (htop : 0 < top ∧ top ≤ 1000) (ok : Ok 1 A) {Q : Value → Shared → Prop} {E : Value → Shared → Prop}
  (ret : ∀ h' tk d td a' b' ta' tb' n', KeepBut src s.heap h' → h'.get? src = some (srcObj a' b' ta' tb' n') → SrcOk a' b' → 0 ≤ d → d < top → Q (.int d td) { s with heap := h', toks := tk }) :
    wpAny (model PySem.Challenge.rw_nt0095_01.row.prog w) A (call (.ref 139) [.ref src, .int top tt] []) Q E s := by
  refine wpAny_noRaise ?_
  obtain ⟨ha, hb1, hb2⟩ := hab
  obtain ⟨ht1, ht2⟩ := htop
  refine' enterS (binds := [(Str.ofString "source", .ref src), (Str.ofString "top", .int top tt)]) ?k1 ?k1b ?k1c ?k1d ?k2 ?k3 ?k4 ?k5 ?k6 ?_ ?c1 ?c2 ?c3 ?c4
  walk_at "ENTERS"
  intro L h₁ hL am2 F N
  have X := am2.X
  obtain ⟨p, l, mg, mb, T⟩ := am2.T
  unfold srcObj at N
  (try k_fold)
  k_steps
  · (rename Fr _ _ _ _ => F'); (rename News _ _ _ _ => N')
    exact ret _ _ (a.fmod top) _ (a.fdiv top) b _ _ _ (keep_of_hide F'.keep) (N' _ (.head _)).1 ⟨Int.fdiv_nonneg ha (by omega), hb1, hb2⟩ (Int.fmod_nonneg ha (by omega)) (Int.fmod_lt_of_pos a ht1)
  · have hX1 : 0 ≤ (b * 39373 + 7).fmod 2147483647 := Int.fmod_nonneg (by omega) (by decide)
    have hX2 : (b * 39373 + 7).fmod 2147483647 < 2147483647 := Int.fmod_lt_of_pos _ (by decide)
    have hm : PySem.IntMulOk ((b * 39373 + 7).fmod 2147483647) ((b * 39373 + 7).fmod 2147483647) := PySem.IntMulOk.of_left (PySem.intBits_le_64 (by omega) (by omega))
    refine PyProof.Rows.mul_int ?_ hm
    (try k_fold)
    k_steps
    (rename Fr _ _ _ _ => F'); (rename News _ _ _ _ => N')
    exact ret _ _ ((((b * 39373 + 7).fmod 2147483647 * (b * 39373 + 7).fmod 2147483647).fmod 2147483629).fdiv 32 |>.fmod top) _ a ((b * 39373 + 7).fmod 2147483647) _ _ _ (keep_of_hide F'.keep) (N' _ (.head _)).1 ⟨ha, hX1, hX2⟩
      (Int.fmod_nonneg (Int.fdiv_nonneg (Int.fmod_nonneg (Int.mul_nonneg hX1 hX1) (by decide)) (by decide)) (by omega)) (Int.fmod_lt_of_pos _ ht1)
end
section
section
local macro_rules | `(tactic| walk_at "exec If") => `(tactic| (k_here; refine halt_intro ?_))
theorem pool_spec {w : World} {A : Around} {s : Shared} {r : Addr} {vs : List Value} {ns : List Int} {k : Nat} {tk0 : Tok} (am : Amb w s.heap) (ok : Ok 1 A) (hl : s.heap.IsList r vs.toArray) (hi : IntsAre vs ns) (hn : vs.length ≤ 63) (hk : k < 3) {Q : Value → Shared → Prop} {E : Value → Shared → Prop}
  (ret : ∀ h' tk src a b ta tb n, Sub s.heap h' → h'.get? src = some (srcObj a b ta tb n) → s.heap.get? src = none → SrcOk a b → Q (.ref src) { s with heap := h', toks := tk }) :
    wpAny (model PySem.Challenge.rw_nt0095_01.row.prog w) A (call (.ref 132) [.ref r, .int (k : Nat) tk0] []) Q E s := by
  refine wpAny_noRaise ?_
  have X := am.X
  obtain ⟨p, l, mg, mb, T⟩ := am.T
  have hlen := hi.length
  refine' enterP (binds := [(Str.ofString "script", .ref r), (Str.ofString "k", .int (k : Nat) tk0)]) ?k1 ?k2 ?k3 ?k4 ?k5 ?k6 ?_ ?c1 ?c2 ?c3 ?c4
  walk_at "ENTERP"
  intro L h₁ hL F N
  (try k_fold)
  k_steps
  refine halt_intro' ?_
  (rename Fr _ _ _ _ => F2); (rename News _ _ _ _ => N2)
  refine join_at (G := s.heap) (L := L) (fun m news => news = [] ∧ ∃ (c : Int) (tc : Tok), Has m [(Str.ofString "k", .int (k : Nat) tk0), (Str.ofString "cell", .int c tc)]) ?_ ?_
  · refine wpAny_If ?_
    by_cases hlt : k < vs.length
    · obtain ⟨v, hv⟩ : ∃ v, vs[k]? = some v := ⟨vs[k], by simp [hlt]⟩
      obtain ⟨c, hc⟩ : ∃ c, ns[k]? = some c := ⟨ns[k]'(by omega), by simp⟩
      obtain ⟨tc, hvc⟩ := hi.get k c hc
      rw [hv] at hvc
      cases hvc
      (try k_fold)
      k_steps
      (rename Fr _ _ _ _ => F'); (rename News _ _ _ _ => N')
      exact ⟨rfl, _, _, _, _, rfl, F', N', rfl, _, _, ⟨rfl, rfl, trivial⟩⟩
    · (try k_fold)
      k_steps
      (rename Fr _ _ _ _ => F'); (rename News _ _ _ _ => N')
      exact ⟨rfl, _, _, _, _, rfl, F', N', rfl, _, _, ⟨rfl, rfl, trivial⟩⟩
  clear F2 N2
  rintro m news h tk ⟨rfl, c, tc, hm⟩ F3 N3
  have F4 := frMany hm F3
  clear F3 hm
  (try k_fold)
  k_steps
  (rename Fr _ _ _ _ => F5); (rename News _ _ _ _ => N5)
  refine max_two_N ok.1 F5 N5 (fun h' tk' F6 N6 => ?_)
  clear F5 N5
  obtain ⟨big, hbig, hb0⟩ : ∃ big : Int, (if -1 - c > c then -1 - c else c) = big ∧ 0 ≤ big := ⟨_, rfl, by split <;> omega⟩
  rw [hbig]
  k_steps
  (rename Fr _ _ _ _ => F'); (rename News _ _ _ _ => N')
  refine ret _ _ _ _ _ _ _ _ F'.keep (N' _ (.head _)).1 (N' _ (.head _)).2.2 ⟨Int.mul_nonneg hb0 (by split <;> decide), fmod_lo _ (by decide), fmod_hi _ (by decide)⟩
end
end
section
theorem fr_upd {G h h' : Heap} {L src : Addr} {m : Str → Option Value} {o o' : Obj} {news news' : Led} (F : Fr G L h m) (N : News G L h news) (U : Upd src o o' news news') (k : KeepBut src h h') (hs : h'.get? src = some o') :
    Fr G L h' m ∧ News G L h' news' := by
  obtain ⟨pre, post, rfl, rfl, h1, h2⟩ := U.split
  have hm : (src, o) ∈ pre ++ (src, o) :: post := List.mem_append.mpr (.inr (.head _))
  have hsL := (N _ hm).2.1
  have hsG := (N _ hm).2.2
  obtain ⟨oL, es, ep, hn, r⟩ := F.ns
  refine ⟨⟨⟨oL, es, ep, k _ _ (fun e => hsL e.symm) hn, r⟩, fun b o e => k _ _ (fun q => by rw [q, hsG] at e; cases e) (F.keep _ _ e), F.above⟩, fun p hp => ?_⟩
  rcases List.mem_append.mp hp with q | q
  · have P := N p (List.mem_append_left _ q); exact ⟨k _ _ (h1 p q) P.1, P.2⟩
  · rcases List.mem_cons.mp q with rfl | q
    · exact ⟨hs, hsL, hsG⟩
    · have P := N p (List.mem_append_right _ (.tail _ q)); exact ⟨k _ _ (h2 p q) P.1, P.2⟩
end
local macro_rules | `(tactic| walk_at "call ref") => `(tactic| (k_here; (rename Fr _ _ _ _ => F9); (rename News _ _ _ _ => N9); (k_dflt (refine' take_spec ?am ?hG ?hGs ?hsrc ?hab ?top ?ok ?_; (case hsrc => exact News.get N9 (by k_mem)); (case hG => exact F9.keep); (case hGs => exact News.fresh N9 (by k_mem)); (case am => assumption); (case hab => assumption); (case top => (constructor <;> first | omega | decide)); (case ok => (refine Ok.low ‹Ok _ _› ?_; decide)))); intro h' tk' d' td' a' b' ta' tb' n' kb' hs' hab' hd1' hd2'; (have FN' := fr_upd F9 N9 (by k_upd) kb' hs'); clear F9 N9; (obtain ⟨F', N'⟩ := FN')))
section
local macro_rules | `(tactic| walk_at "ZZ") => `(tactic| skip)
theorem one_spec {w : World} {A : Around} {s : Shared} {G : Heap} {src r : Addr} {a b : Int} {ta tb : Tok} {n nn : Nat} {vs : List Value} (am : Amb w G) (hG : Sub G s.heap) (hGs : G.get? src = none) (hsrc : s.heap.get? src = some (srcObj a b ta tb n)) (hab : SrcOk a b)
    (hr : s.heap.get? r = some (listOf vs.toArray nn)) (hne : r ≠ src) (hv : 1 ≤ vs.length ∧ vs.length ≤ 100) (ok : Ok 2 A) {Q : Value → Shared → Prop} {E : Value → Shared → Prop}
  (ret : ∀ h' tk v a' b' ta' tb' n' (i : Nat), KeepBut src s.heap h' → h'.get? src = some (srcObj a' b' ta' tb' n') → SrcOk a' b' → vs[i]? = some v → Q v { s with heap := h', toks := tk }) :
    wpAny (model PySem.Challenge.rw_nt0095_01.row.prog w) A (call (.ref 146) [.ref src, .ref r] []) Q E s := by
  refine wpAny_noRaise ?_
  obtain ⟨hv1, hv2⟩ := hv
  refine' enterS (binds := [(Str.ofString "source", .ref src), (Str.ofString "things", .ref r)]) ?k1 ?k1b ?k1c ?k1d ?k2 ?k3 ?k4 ?k5 ?k6 ?_ ?c1 ?c2 ?c3 ?c4
  walk_at "ENTERS"
  intro L h₁ hL am2 F N
  have X := am2.X
  obtain ⟨p, l, mg, mb, T⟩ := am2.T
  have hl : (hideAll s.heap [src]).IsList r vs.toArray := ⟨_, hideAll_get _ hr (fun q => hne (List.mem_singleton.mp q)), rfl, _, rfl⟩
  (try k_fold)
  k_steps
  rename_i d' td' a' b' ta' tb' n' kb' hs' hab' hd1' hd2' F' N'
  obtain ⟨v, hv⟩ : ∃ v, vs[d'.toNat]? = some v := ⟨vs[d'.toNat]'(by omega), by simp⟩
  k_steps
  exact ret _ _ v a' b' _ _ _ _ (keep_of_hide F'.keep) (N' _ (.head _)).1 hab' hv
end
section
section
variable {w : World} {A : Around} {s : Shared} {name qual : Str} {params : Arguments} {body : List Stmt} {scope : Scope} {dV kV doc pm cdv ct oc : Value} {an od : Option Addr} {osl : Array (Option Value)} {f : Addr} {pos : List Value} {kw : List (Str × Value)} {binds : List (Str × Value)}
theorem enterSC {Q : Value → Shared → Prop} {G : Heap} {news : Led}
    (am : Amb w G) (hG : Sub G s.heap) (hz : G.objs.size ≤ s.heap.objs.size) (N : ∀ p ∈ news, s.heap.get? p.1 = some p.2 ∧ G.get? p.1 = none) (hroom : A.depth < recursionLimit)
    (ho : (hd.heap_39 w.params).lookup f = some ⟨oc, od, .func (fnOf name qual params body scope dV kV doc pm an cdv ct), osl⟩) (hcd : codeIn (hd.heap_39 w.params) cdv qual = true)
    (hbind : BindsTo s (fnOf name qual params body scope dV kV doc pm an cdv ct) ⟨pos, kw⟩ binds)
    (hkind : (binds.all fun y => scope.names.lookup y.1 == some .local || scope.names.lookup y.1 == some .cell) = true)
    (hnd : ((cellsFrom 0 scope.names []).map (·.1)).Nodup)
    (h : ∀ L h₁ tk cells, L = s.heap.objs.size → Fr G L h₁ (bindL (envOfC qual scope L f cdv).kindOf binds fun _ => none) → News G L h₁ (cells ++ news) →
      CellsAre (bindC (envOfC qual scope L f cdv).kindOf binds fun _ => none) (cellsFrom (L + 1) scope.names []) cells →
      wpAny (model PySem.Challenge.rw_nt0095_01.row.prog w) (A.deeper (envOfC qual scope L f cdv)) (execs body (envOfC qual scope L f cdv))
        (fun fl s' => Q (match fl with | .ret v => v | _ => .none) s') (fun _ _ => False)
        { s with heap := h₁, toks := tk })
    (hco : scope.isCoroutine = false := by rfl) (hgen : scope.isGenerator = false := by rfl) (hk : scope.kind = .function := by rfl) :
    wpAny (model PySem.Challenge.rw_nt0095_01.row.prog w) A (call (.ref f) pos kw) Q (fun _ _ => False) s := by
  obtain ⟨p, l, mg, mb, T⟩ := am.T
  refine wpAny_call ?_
  refine codeAny_call_function (fd := fnOf name qual params body scope dV kV doc pm an cdv ct) hroom (hG _ _ (am.X _ _ ho)) rfl hco hgen rfl (codeRec_of (am.X.keeps hG) hcd) (hbind _ _ _ _ ?_)
  refine wpAny_newFunctionEnv_cells hk (kindsX hkind _) fun env' he s' x => ?_
  subst he
  refine ⟨(T.nolimit.keeps hG).keeps x.toInCall.keep, codeAny_func ?_⟩
  obtain ⟨h₁, tk, rfl, _⟩ := x.done
  have hk₁ := x.toInCall.keep
  obtain ⟨cells, NC, Y⟩ := Cl.news (h₀ := s.heap) (Nat.le_refl _) fun n c hm => ⟨x.cell n c (lookup_of_mem_nodup (cellsFrom_names scope.names 0 (s.heap.objs.size + 1) [] [] rfl ▸ hnd) hm), x.above n c hm⟩
  refine wpAny_mono (h s.heap.objs.size h₁ tk cells rfl ⟨x.toInCall.ns, fun b o e => hk₁ b o (hG b o e), hz⟩ (fun p hp => ?_) Y) (fun fl s' q => q) fun _ _ q => q.elim
  rcases List.mem_append.mp hp with hp | hp
  · refine ⟨(NC p hp).1, (NC p hp).2.1, ?_⟩
    cases q : G.get? p.1 with
    | none => rfl
    | some o => have := hG _ _ q; rw [(NC p hp).2.2] at this; cases this
  · exact ⟨hk₁ _ _ (N p hp).1, Nat.ne_of_lt (Heap.lt_size (N p hp).1), (N p hp).2⟩
end
section
variable {prog : Program} {w : World} {A : Around} {h₀ : Heap} {L : Addr} {m : Str → Option Value} {env : Env} {elt : Expr} {x : Str} {scope : Scope} {cl : List (Str × Addr)} {s : Shared} {S : Led → Prop} {P : Nat → Value → Prop} {Fin : List Value → Led → Prop}
theorem rest_inv {n : Nat} {news : Led} (J : Nat → List Value → Led → Prop) (h0 : J 0 [] news)
    (turn : ∀ i v ys news I oI C oC D m₂ h tk (E' : Value → Shared → Prop), i < n → P i v → J i ys news → LCg.NsObj oC m₂ → m₂ x = some v → Fr h₀ L h m → News h₀ L h ((I, oI) :: (C, oC) :: (D, LCg.lst ys) :: news) → LCg.Off3 I C D news → ((@Ne Nat I C) ∧ (@Ne Nat I D) ∧ (@Ne Nat C D)) →
      wpAny (model prog w) A (eval elt (compEnvC scope cl C env)) (LCg.CompEnd h₀ L m { s with heap := h, toks := tk } I oI C oC D (LCg.lst ys) S (fun y news' => J (i + 1) (ys ++ [y]) news')) E' { s with heap := h, toks := tk })
    (fin : ∀ ys news, J n ys news → Fin ys news) : LCg.CompRest prog w A h₀ L m env elt x scope cl s S P Fin n 0 [] news := by
  have key : ∀ (j i : Nat) (ys : List Value) (news : Led), i + j = n → J i ys news → LCg.CompRest prog w A h₀ L m env elt x scope cl s S P Fin j i ys news := by
    intro j
    induction j with
    | zero =>
      intro i ys news hi hy
      have e : i = n := by omega
      subst e
      exact LCg.CompRest.zero (fin ys news hy)
    | succ j ih =>
      intro i ys news hi hy
      refine LCg.CompRest.succ ?_
      intro v I oI C oC D m₂ h tk E' hv hC hx F N off ne
      refine wpAny_mono (turn i v ys news I oI C oC D m₂ h tk E' (by omega) hv hy hC hx F N off ne) (fun y s₂ hq => ?_) fun _ _ e => e
      obtain ⟨h', tk', nw, e, F', N', off', hS, hJ⟩ := hq
      exact ⟨h', tk', nw, e, F', N', off', hS, ih (i + 1) _ _ (by omega) hJ⟩
  exact key n 0 [] news (by omega) h0
end
def alpha : List Nat := [97, 65, 98, 66, 37, 95, 42, 63, 91, 93, 45, 94, 92, 233, 201]
def IsSign (v : Value) : Prop := ∃ c t, v = .str ⟨#[c]⟩ t ∧ c ∈ alpha
section
variable {prog : Program} {w : World} {A : Around} {h₀ : Heap} {L : Addr} {m : Str → Option Value} {env : Env} {elt : Expr} {x : Str} {scope : Scope} {cl : List (Str × Addr)} {s : Shared} {S : Led → Prop} {P : Nat → Value → Prop} {Fin : List Value → Led → Prop}
theorem rest_src {src : Addr} {n : Nat} {news : Led} {g : Obj → Led} {a b : Int} {ta tb : Tok} {k : Nat} (R : Value → Prop) (U : UpdF src (srcObj a b ta tb k) news g) (hab : SrcOk a b)
    (turn : ∀ v ys a b ta tb k I oI C oC D m₂ h tk (E' : Value → Shared → Prop), ys.length < n → SrcOk a b → LCg.NsObj oC m₂ → m₂ x = some v → Fr h₀ L h m → News h₀ L h ((I, oI) :: (C, oC) :: (D, LCg.lst ys) :: g (srcObj a b ta tb k)) → LCg.Off3 I C D (g (srcObj a b ta tb k)) → ((@Ne Nat I C) ∧ (@Ne Nat I D) ∧ (@Ne Nat C D)) →
      wpAny (model prog w) A (eval elt (compEnvC scope cl C env)) (LCg.CompEnd h₀ L m { s with heap := h, toks := tk } I oI C oC D (LCg.lst ys) S (fun y news' => R y ∧ ∃ a b ta tb k, SrcOk a b ∧ news' = g (srcObj a b ta tb k))) E' { s with heap := h, toks := tk })
    (fin : ∀ ys a b ta tb k, ys.length = n → (∀ y ∈ ys, R y) → SrcOk a b → Fin ys (g (srcObj a b ta tb k))) : LCg.CompRest prog w A h₀ L m env elt x scope cl s S P Fin n 0 [] news := by
  refine rest_inv (fun i ys news => ys.length = i ∧ (∀ y ∈ ys, R y) ∧ ∃ a b ta tb k, SrcOk a b ∧ news = g (srcObj a b ta tb k)) ⟨rfl, (fun _ h => nomatch h), a, b, ta, tb, k, hab, ?_⟩ ?_ ?_
  · obtain ⟨pre, post, e1, e2, _, _⟩ := U.split
    rw [e1, e2]
  · rintro i v ys news I oI C oC D m₂ h tk E' hi hP ⟨hl, hR, a, b, ta, tb, k, hab, rfl⟩ hC hx F N off ne
    refine wpAny_mono (turn v ys a b ta tb k I oI C oC D m₂ h tk E' (by omega) hab hC hx F N off ne) (fun y s₂ hq => ?_) fun _ _ e => e
    obtain ⟨h', tk', nw, e, F', N', off', hS, hy, hJ⟩ := hq
    refine ⟨h', tk', nw, e, F', N', off', hS, by rw [List.length_append, hl]; rfl, fun z hz => ?_, hJ⟩
    rcases List.mem_append.mp hz with q | q
    · exact hR z q
    · rw [List.mem_singleton.mp q]; exact hy
  · rintro ys news ⟨hl, hR, a, b, ta, tb, k, hab, rfl⟩
    exact fin ys a b ta tb k hl hR hab
end
section
open PySem.Calls PySem.Spec
variable {M : Model} {A : Around} {E : Value → Shared → Prop} {s : Shared} {K : Frag} {h₀ : Heap} {L C : Addr} {m mg mb : Str → Option Value} {scope : Scope} {cl : List (Str × Addr)} {env : Env} {p : Program} {loose : List Str} {x : Str} {pos : Pos} {v : Value} {Q : Value → Shared → Prop}
theorem ldc_global (F : Fr h₀ L s.heap m) (X : K.In h₀) (T : TopRead p loose mg mb h₀) (e : nsIn K mainGlobals x = some (some v)) (h : Q v s) (hg : env.globals = mainGlobals)
    (hk : (compEnvC scope cl C env).scope.kind = .function) (hx : (compEnvC scope cl C env).kindOf x = some .globalImplicit) (hd : (x == ("__debug__" : Str)) = false) :
    wpAny M A (eval (.Name x pos) (compEnvC scope cl C env)) Q E s :=
  Name_function_global hk hx (loadGlobal_global (env := compEnvC scope cl C env) (show s.heap.Ns env.globals mg from hg ▸ T.g.keeps F.keep) (mg_of X T.g e) h) hd
theorem ldc_built (F : Fr h₀ L s.heap m) (X : K.In h₀) (T : TopRead p loose mg mb h₀) (e : nsIn K mainGlobals x = some none) (hv : bootBuiltins x = some v) (hn : x ≠ "__name__") (h : Q v s) (hg : env.globals = mainGlobals) (hb : env.builtins = builtinsNs)
    (hk : (compEnvC scope cl C env).scope.kind = .function) (hx : (compEnvC scope cl C env).kindOf x = some .globalImplicit) (hd : (x == ("__debug__" : Str)) = false) :
    wpAny M A (eval (.Name x pos) (compEnvC scope cl C env)) Q E s :=
  Name_function_global hk hx (loadGlobal_builtin (env := compEnvC scope cl C env) (show s.heap.Ns env.globals mg from hg ▸ T.g.keeps F.keep) (mg_none_of X T.g e) (show s.heap.Ns env.builtins mb from hb ▸ T.b.keeps F.keep) ((T.builtins x hn).trans hv) h) hd
end
def AllV (P : Value → Prop) : List Value → Prop
  | [] => True
  | v :: r => P v ∧ AllV P r
theorem AllV.get {P : Value → Prop} : ∀ {l : List Value} {i : Nat} {v : Value}, AllV P l → l[i]? = some v → P v
  | [], _, _, _, h => by simp at h
  | x :: r, 0, v, ⟨h1, _⟩, h => by simp at h; subst h; exact h1
  | x :: r, i + 1, v, ⟨_, h2⟩, h => AllV.get h2 (by simpa using h)
def signB (x : Str) : Bool := match x.cps.toList with
  | [c] => alpha.contains c
  | _ => false
theorem sgn {x : Str} {t : Tok} (h : signB x = true) : IsSign (.str x t) := by
  unfold signB at h
  split at h
  · rename_i c e
    refine ⟨c, t, ?_, by simpa using h⟩
    obtain ⟨⟨l⟩⟩ := x
    simp only at e
    rw [e]
  · cases h
theorem signs_of {ys : List Value} (h : ∀ y ∈ ys, IsSign y) : ∃ l : List Nat, StrsAre ys (l.map fun c => ⟨#[id c]⟩) ∧ l.length = ys.length ∧ ∀ c ∈ l, c ∈ alpha := by
  induction ys with
  | nil => exact ⟨[], .nil, rfl, fun _ h => nomatch h⟩
  | cons y ys ih =>
    obtain ⟨l, h1, h2, h3⟩ := ih fun z hz => h z (.tail _ hz)
    obtain ⟨c, t, rfl, hc⟩ := h y (.head _)
    refine ⟨c :: l, .cons _ _ h1, by simp [h2], fun d hd => ?_⟩
    rcases List.mem_cons.mp hd with rfl | hd
    · exact hc
    · exact h3 d hd
end
local macro_rules | `(tactic| walk_at "call ref") => `(tactic| (k_here; (rename Fr _ _ _ _ => F9); (rename News _ _ _ _ => N9); (k_dflt (refine' one_spec ?am ?hG ?hGs ?hsrc ?hab ?hr ?hne ?hv ?ok ?_; (case hsrc => exact News.get N9 (by k_mem)); (case hG => exact F9.keep); (case hGs => exact News.fresh N9 (by k_mem)); (case am => assumption); (case hab => assumption); (case hr => exact News.get N9 (by k_mem)); (case hne => k_ne); (case hv => (constructor <;> (first | decide | omega | (simp; done)))); (case ok => (refine Ok.low ‹Ok _ _› ?_; decide)))); intro h' tk' v' a' b' ta' tb' n' i' kb' hs' hab' hv'; (have FN' := fr_upd F9 N9 (by k_upd) kb' hs'); clear F9 N9; (obtain ⟨F', N'⟩ := FN'); refine halt_intro ?_))
local macro_rules | `(tactic| walk_at "eval Name") => `(tactic| (k_here; (with_reducible show wpAny _ _ (eval (Expr.Name _ _) (compEnvC _ _ _ _)) _ _ _); k_dflt (first | (refine' ldc_global ?F ?X ?T ?e ?_ ?g ?a ?b ?c; (case X => k_asm); (case e => k_is); (case F => k_asm); (case T => k_asm); (case g => exact rfl); (case a => exact rfl); (case b => exact rfl); (case c => decide)) | (refine' ldc_built ?F ?X ?T ?e ?hv ?hn ?_ ?g ?gb ?a ?b ?c; (case X => k_asm); (case e => k_is); (case hv => boot_by_name); (case hn => decide); (case F => k_asm); (case T => k_asm); (case g => exact rfl); (case gb => exact rfl); (case a => exact rfl); (case b => exact rfl); (case c => decide)))))
section
local macro_rules | `(tactic| walk_at "ENTERSC") => `(tactic| (
  (case k1 => assumption); (case k1b => assumption); (case k2 => k_room); (case k3 => k_is); (case k4 => k_is); (case k5 => first | exact BindsTo.of_eq rfl | exact binds_K (by k_in) rfl (by k_is) rfl rfl rfl); (case k6 => exact rfl);
  (case k7 => decide); (case c1 => exact rfl); (case c2 => exact rfl); (case c3 => exact rfl)))
theorem text_spec {w : World} {A : Around} {s : Shared} {G : Heap} {src : Addr} {a b : Int} {ta tb : Tok} {n : Nat} (am : Amb w G) (hG : Sub G s.heap) (hGs : G.get? src = none) (hsrc : s.heap.get? src = some (srcObj a b ta tb n)) (hab : SrcOk a b)
    (ok : Ok 4 A) {Q : Value → Shared → Prop} {E : Value → Shared → Prop}
  (ret : ∀ h' tk x tx a' b' ta' tb' n', KeepBut src s.heap h' → h'.get? src = some (srcObj a' b' ta' tb' n') → SrcOk a' b' → x.cps.size ≤ 6 → (∀ c ∈ x.cps.toList, c ∈ alpha) → Q (.str x tx) { s with heap := h', toks := tk }) :
    wpAny (model PySem.Challenge.rw_nt0095_01.row.prog w) A (call (.ref 151) [.ref src] []) Q E s := by
  refine wpAny_noRaise ?_
  have am2 : Amb w (hideAll s.heap [src]) := amb_hide am hG fun a ha => by rw [List.mem_singleton.mp ha]; exact hGs
  have hz : (hideAll s.heap [src]).objs.size ≤ s.heap.objs.size := Nat.le_of_eq (hideAll_size _ _)
  have hsub : Sub (hideAll s.heap [src]) s.heap := hide_sub _ _
  refine' enterSC (G := hideAll s.heap [src]) (news := [(src, srcObj a b ta tb n)]) (binds := [(Str.ofString "source", .ref src)]) am2 ?k1 ?k1b ?kN ?k2 ?k3 ?k4 ?k5 ?k6 ?k7 ?_ ?c1 ?c2 ?c3
  walk_at "ENTERSC"
  · intro p hp
    rw [List.mem_singleton.mp hp]
    exact ⟨hsrc, hideAll_none _ (.head _)⟩
  intro L h₁ tk cells hL F N Y
  k_cells Y
  rename_i o1 o2 d1 d2
  replace d2 : o2.data = .cell (some (.ref src)) := d2
  replace d1 : o1.data = .cell none := d1
  simp only [List.cons_append, List.nil_append] at N
  have X := am2.X
  have hsl : @LT.lt Nat _ src L := hL ▸ Heap.lt_size hsrc
  obtain ⟨p, l, mg, mb, T⟩ := am2.T
  (try k_fold)
  k_steps
  refine halt_intro' ?_
  (rename Fr _ _ _ _ => F1); (rename News _ _ _ _ => N1)
  try simp only [List.cons_append, List.nil_append] at N1
  refine LCg.ListComp_U (F₀ := F1) (by with_unfolding_all rfl) (by decide) (by rfl) (by decide) (by rfl) ?_
  (try k_fold)
  k_steps
  rename_i d' td' a' b' ta' tb' n' kb' hs' hab' hd1' hd2' _ _ h2 tk2 t1 u1 v1 hr F2 N2 k2
  obtain ⟨nn, hnn, hn7⟩ : ∃ nn : Nat, d' = (nn : Int) ∧ nn < 7 := ⟨d'.toNat, by omega, by omega⟩
  subst hnn
  have hsmall : Builtin.Range.small 0 (nn : Int) 1 = true := small_one (by decide) (by decide) (by omega) (by omega)
  have hrs : Builtin.Range.rangeSize 0 (nn : Int) 1 = (nn : Int) := by rw [rangeSize_one]; split <;> omega
  refine LCg.CompSrc.range ok.1 F2 N2 hr hsmall hrs (by rw [sizeLine_eq]; omega) ?_
  intro g
  dsimp only
  refine' rest_src (a := a') (b := b') (ta := ta') (tb := tb') (k := n') (src := src) IsSign ?hU hab' ?hturn ?hfin
  case hU => k_updF
  · intro v ys a b ta tb k I oI C oC D m₂ h3 tk3 E' hys hab3 hC hx F3 N3 off ne
    have off9 := off
    simp only [LCg.Off3, and_true] at off9
    obtain ⟨⟨_, _, _⟩, ⟨_, _, _⟩, ⟨_, _, _⟩, _, _, _⟩ := off9
    obtain ⟨_, _, _⟩ := ne
    clear F2 N2
    (try k_fold)
    k_steps
    rename_i v5 a5 b5 ta5 tb5 n5 i5 kb5 hs5 hab5 hv5 F5 N5
    have hv6 : (∃ t, v5 = .int 4 t) ∨ (∃ t, v5 = .int 8 t) ∨ (∃ t, v5 = .int 15 t) := by
      rcases i5 with _ | _ | _ | i5
      · exact .inl ⟨_, (Option.some.inj hv5).symm⟩
      · exact .inr (.inl ⟨_, (Option.some.inj hv5).symm⟩)
      · exact .inr (.inr ⟨_, (Option.some.inj hv5).symm⟩)
      · cases hv5
    clear hv5
    rcases hv6 with ⟨t, rfl⟩ | ⟨t, rfl⟩ | ⟨t, rfl⟩
    all_goals
      refine halt_intro' ?_
      k_steps
      rename_i v6 a6 b6 ta6 tb6 n6 i6 kb6 hs6 hab6 hv6 F6 N6
      have hsign : IsSign v6 := AllV.get (P := IsSign) (by repeat' (first | exact trivial | refine ⟨sgn (by decide +kernel), ?_⟩)) hv6
      exact halt_intro' (LCg.CompEnd.intro F6 N6 _ (fun p hp => .tail _ (.tail _ hp)) off trivial ⟨hsign, a6, b6, ta6, tb6, n6, hab6, rfl⟩)
  · intro ys a b ta tb k hl hR hab3
    intro D h3 tk3 F3 N3 o3
    simp only [LCg.Off1, and_true] at o3
    clear F2 N2
    (try k_fold)
    k_steps
    obtain ⟨cs, hcs, hlen, hal⟩ := signs_of hR
    refine join_chars id cs N3 (.head _) hcs (by omega) lit_e (fun t' k => ?_)
    refine ret _ _ _ _ _ _ _ _ _ (keep_of_hide F3.keep) (N3 _ (.tail _ (.tail _ (.tail _ (.tail _ (.head _)))))).1 hab3 ?_ ?_
    · simp; omega
    · simpa using hal
end
section
def TxtLe (k : Nat) (v : Value) : Prop := ∃ x t, v = .str x t ∧ x.cps.size ≤ k
theorem sz_one {c : Nat} : (⟨#[c]⟩ : Str).cps.size ≤ 1 := Nat.le_refl _
theorem txtLe {x : Str} {t : Tok} {k a : Nat} (h : x.cps.size ≤ a) (ha : a ≤ k) : TxtLe k (.str x t) := ⟨x, t, rfl, Nat.le_trans h ha⟩
theorem sz8 {x : Str} (h : x.cps.size ≤ 8) : x.cps.size ≤ 8 := h
section
variable {prog : Program} {w : World} {A : Around} {E : Value → Shared → Prop} {s : Shared} {G : Heap} {L : Addr}
theorem add_any {x y : Str} {t u : Tok} {a b : Nat} {Q : Value → Shared → Prop} (hx : x.cps.size ≤ a) (hy : y.cps.size ≤ b) (hab : a + b ≤ 1000) (h : ∀ z tz tk, z.cps.size ≤ a + b → Q (.str z tz) { s with toks := tk }) :
    wpAny (model prog w) A (binaryOp .Add (.str x t) (.str y u)) Q E s := by
  refine PyProof.Rows.add_str (fun t' tk => h _ _ _ ?_) ?_
  · show (Str.append x y).cps.size ≤ _
    cases x; cases y
    simp only [Str.append, Array.size_append] at *
    omega
  · show x.cps.size + y.cps.size ≤ _
    rw [sizeLine_eq]; omega
theorem upper_any {x : Str} {t : Tok} {pos : List Value} {a : Nat} {Q : Value → Shared → Prop} (hpos : pos = [.str x t]) (hx : x.cps.size ≤ a) (ha : a ≤ 1000) (h : ∀ z tz tk, z.cps.size ≤ 3 * a → Q (.str z tz) { s with toks := tk }) :
    wpAny (model prog w) A (call (.builtin "str.upper") pos) Q E s := by
  subst hpos
  exact PyProof.Rows.SCL.upper (by show x.cps.size ≤ _; omega) (fun hl => h _ _ _ (Nat.le_trans hl (Nat.mul_le_mul_left 3 hx)))
theorem item_led {value slice : Expr} {l : Addr} {vs : List Value} {k : Int} {u : Tok} {n : Nat} {news : Led} {Q : Value → Shared → Prop} (N : News G L s.heap news) (hm : (l, listOf vs.toArray n) ∈ news) (h0 : 0 ≤ k) (hk : k < vs.length) (hn : vs.length ≤ 100000)
    (h : ∀ (i : Nat) (v : Value), vs[i]? = some v → Q v s)
    (hs : subscripted slice false (.ref l) (.int k u) = operate [.ref l, .int k u] (getItem (.ref l) (.int k u)) := by with_unfolding_all rfl) :
    wpAny (model prog w) A (subscriptTail value slice (.ref l) (.int k u)) Q E s := by
  have hL : s.heap.IsList l vs.toArray := N.isList hm
  obtain ⟨v, hv⟩ : ∃ v, vs[k.toNat]? = some v := ⟨vs[k.toNat]'(by omega), by simp⟩
  exact tail_any hL.typeIs slot_list_getitem.lookup (wpAny_getItem_list hL (by omega) (by omega) (by simpa using hv) (h _ _ hv)) hs
end
end
section

local macro_rules | `(tactic| walk_at "SUBR") => `(tactic| (k_here; refine' item_led ?N ?hm ?h0 ?hk ?hn ?_; (case N => k_asm); (case hm => k_mem); (case h0 => omega); (case hk => (simp only [List.length_cons, List.length_nil]; omega)); (case hn => (simp only [List.length_cons, List.length_nil]; omega)); intro i' v' hv'; refine halt_intro ?_))
local macro_rules | `(tactic| walk_at "binaryOp Add str str") => `(tactic| (k_here; refine' add_any ?a ?b ?ab ?_; (case a => first | exact sz_one | exact sz8 (by decide +kernel) | assumption); (case b => first | exact sz_one | exact sz8 (by decide +kernel) | assumption); (case ab => omega); intro z' tz' tk' hz'))
local macro_rules | `(tactic| walk_at "call builtin:str.upper") => `(tactic| (k_here; refine' upper_any ?hp ?hx ?ha ?_; (case hp => exact rfl); (case hx => first | exact sz_one | assumption); (case ha => omega); intro z' tz' tk' hz'))
inductive LkInv (src : Addr) (i : Nat) (m : Str → Option Value) (news : List (Addr × Obj)) : Prop
  | mk (a : Int) (b : Int) (ta : Tok) (tb : Tok) (k : Nat) (y : Str) (ty : Tok) (q1 : SrcOk a b) (q2 : news = [(src, srcObj a b ta tb k)]) (q3 : Has m [(Str.ofString "source", .ref src), (Str.ofString "found", .str y ty)]) (q4 : y.cps.size ≤ 16 * i) : LkInv src i m news
theorem likepat_spec {w : World} {A : Around} {s : Shared} {G : Heap} {src : Addr} {a b : Int} {ta tb tx : Tok} {n : Nat} {x : Str} (am : Amb w G) (hG : Sub G s.heap) (hGs : G.get? src = none) (hsrc : s.heap.get? src = some (srcObj a b ta tb n)) (hab : SrcOk a b) (hx : x.cps.size ≤ 6)
    (ok : Ok 3 A) {Q : Value → Shared → Prop} {E : Value → Shared → Prop}
  (ret : ∀ h' tk y ty a' b' ta' tb' n', KeepBut src s.heap h' → h'.get? src = some (srcObj a' b' ta' tb' n') → SrcOk a' b' → y.cps.size ≤ 200 → Q (.str y ty) { s with heap := h', toks := tk }) :
    wpAny (model PySem.Challenge.rw_nt0095_01.row.prog w) A (call (.ref 158) [.ref src, .str x tx] []) Q E s := by
  refine wpAny_noRaise ?_
  refine' enterS (binds := [(Str.ofString "source", .ref src), (Str.ofString "text", .str x tx)]) ?k1 ?k1b ?k1c ?k1d ?k2 ?k3 ?k4 ?k5 ?k6 ?_ ?c1 ?c2 ?c3 ?c4
  walk_at "ENTERS"
  intro L h₁ hL am2 F N
  have X := am2.X
  obtain ⟨p, l, mg, mb, T⟩ := am2.T
  (try k_fold)
  k_steps
  refine halt_intro' ?_
  (rename Fr _ _ _ _ => F2); (rename News _ _ _ _ => N2)
  refine forF (hideAll s.heap [src]) rfl rfl ?_
  (try k_fold)
  k_steps
  refine loop_str ok.1 F2 N2 (LkInv src) ⟨a, b, ta, tb, n, _, _, hab, rfl, ⟨rfl, rfl, trivial⟩, by decide +kernel⟩ ?_ ?_
  · rintro i c u m news h tk I oI hc ⟨a, b, ta, tb, k, y, ty, hab, rfl, hm, hy⟩ hoff hlt F N
    have hIs : @LT.lt Nat _ src I := hlt (src, _) (.head _)
    have hi : i < x.cps.size := (Array.getElem?_eq_some_iff.mp hc).1
    have hm2 : Has (fun y => if y = Str.ofString "sign" then some (Value.str ⟨#[c]⟩ u) else m y) [(Str.ofString "source", .ref src), (Str.ofString "found", .str y ty)] := ⟨hm.1, hm.2.1, trivial⟩
    have F := frMany hm2 F
    clear F2 N2
    (try k_fold)
    k_steps
    all_goals
      (rename SrcOk _ _ => hab'); (rename Fr _ _ _ _ => F'); (rename News _ _ _ _ => N')
      exact ⟨_, _, _, _, rfl, F', fun p hp => N' p (.tail _ hp), fun p hp => by rw [List.mem_singleton.mp hp]; exact Nat.ne_of_lt hIs, _, _, _, _, _, _, _, hab', rfl, ⟨rfl, rfl, trivial⟩, by omega⟩
  · rintro m news h tk ⟨a, b, ta, tb, k, y, ty, hab, rfl, hm, hy⟩ F N
    have F := frMany hm F
    clear F2 N2
    (try k_fold)
    k_steps
    rename_i v6 a6 b6 ta6 tb6 n6 i6 kb6 hs6 hab6 hv6 F6 N6
    obtain ⟨y6, t6, rfl, hy6⟩ : TxtLe 8 v6 := AllV.get (P := TxtLe 8) (by repeat' (first | exact trivial | refine ⟨txtLe (a := 8) (by decide +kernel) (by decide), ?_⟩)) hv6
    clear hv6
    refine halt_intro' ?_
    k_steps
    refine ret _ _ _ _ _ _ _ _ _ (keep_of_hide F6.keep) (N6 _ (.tail _ (.head _))).1 hab6 ?_
    omega
inductive GbInv (src : Addr) (i : Nat) (m : Str → Option Value) (news : List (Addr × Obj)) : Prop
  | mk (a : Int) (b : Int) (ta : Tok) (tb : Tok) (k : Nat) (y : Str) (ty : Tok) (q1 : SrcOk a b) (q2 : news = [(src, srcObj a b ta tb k)]) (q3 : Has m [(Str.ofString "source", .ref src), (Str.ofString "found", .str y ty)]) (q4 : y.cps.size ≤ 32 * i) : GbInv src i m news
theorem globpat_spec {w : World} {A : Around} {s : Shared} {G : Heap} {src : Addr} {a b : Int} {ta tb tx : Tok} {n : Nat} {x : Str} (am : Amb w G) (hG : Sub G s.heap) (hGs : G.get? src = none) (hsrc : s.heap.get? src = some (srcObj a b ta tb n)) (hab : SrcOk a b) (hx : x.cps.size ≤ 6)
    (ok : Ok 3 A) {Q : Value → Shared → Prop} {E : Value → Shared → Prop}
  (ret : ∀ h' tk y ty a' b' ta' tb' n', KeepBut src s.heap h' → h'.get? src = some (srcObj a' b' ta' tb' n') → SrcOk a' b' → y.cps.size ≤ 300 → Q (.str y ty) { s with heap := h', toks := tk }) :
    wpAny (model PySem.Challenge.rw_nt0095_01.row.prog w) A (call (.ref 165) [.ref src, .str x tx] []) Q E s := by
  refine wpAny_noRaise ?_
  refine' enterS (binds := [(Str.ofString "source", .ref src), (Str.ofString "text", .str x tx)]) ?k1 ?k1b ?k1c ?k1d ?k2 ?k3 ?k4 ?k5 ?k6 ?_ ?c1 ?c2 ?c3 ?c4
  walk_at "ENTERS"
  intro L h₁ hL am2 F N
  have X := am2.X
  obtain ⟨p, l, mg, mb, T⟩ := am2.T
  (try k_fold)
  k_steps
  refine halt_intro' ?_
  (rename Fr _ _ _ _ => F2); (rename News _ _ _ _ => N2)
  refine forF (hideAll s.heap [src]) rfl rfl ?_
  (try k_fold)
  k_steps
  refine loop_str ok.1 F2 N2 (GbInv src) ⟨a, b, ta, tb, n, _, _, hab, rfl, ⟨rfl, rfl, trivial⟩, by decide +kernel⟩ ?_ ?_
  · rintro i c u m news h tk I oI hc ⟨a, b, ta, tb, k, y, ty, hab, rfl, hm, hy⟩ hoff hlt F N
    have hIs : @LT.lt Nat _ src I := hlt (src, _) (.head _)
    have hi : i < x.cps.size := (Array.getElem?_eq_some_iff.mp hc).1
    have hm2 : Has (fun y => if y = Str.ofString "sign" then some (Value.str ⟨#[c]⟩ u) else m y) [(Str.ofString "source", .ref src), (Str.ofString "found", .str y ty)] := ⟨hm.1, hm.2.1, trivial⟩
    have F := frMany hm2 F
    clear F2 N2
    (try k_fold)
    k_steps
    rename_i v6 a6 b6 ta6 tb6 n6 i6 kb6 hs6 hab6 hv6 F6 N6
    obtain ⟨y6, t6, rfl, hy6⟩ : TxtLe 17 v6 := AllV.get (P := TxtLe 17) (by repeat' (first | exact trivial | refine ⟨txtLe (a := 8) (by decide +kernel) (by decide), ?_⟩ | refine ⟨txtLe (by assumption) (by omega), ?_⟩)) hv6
    clear hv6
    refine halt_intro' ?_
    k_steps
    rename_i v7 hv7
    obtain ⟨y7, t7, rfl, hy7⟩ : TxtLe 17 v7 := AllV.get (P := TxtLe 17) (by repeat' (first | exact trivial | refine ⟨txtLe (a := 8) (by decide +kernel) (by decide), ?_⟩ | refine ⟨txtLe sz_one (by decide), ?_⟩ | refine ⟨txtLe (by assumption) (by omega), ?_⟩)) hv7
    clear hv7
    refine halt_intro' ?_
    k_steps
    all_goals
      (rename SrcOk _ _ => hab'); (rename Fr _ _ _ _ => F'); (rename News _ _ _ _ => N')
      exact ⟨_, _, _, _, rfl, F', fun p hp => N' p (.tail _ (.tail _ hp)), fun p hp => by rw [List.mem_singleton.mp hp]; exact Nat.ne_of_lt hIs, _, _, _, _, _, _, _, hab', rfl, ⟨rfl, rfl, trivial⟩, by omega⟩
  · rintro m news h tk ⟨a, b, ta, tb, k, y, ty, hab, rfl, hm, hy⟩ F N
    have F := frMany hm F
    clear F2 N2
    (try k_fold)
    k_steps
    rename_i v6 a6 b6 ta6 tb6 n6 i6 kb6 hs6 hab6 hv6 F6 N6
    obtain ⟨y6, t6, rfl, hy6⟩ : TxtLe 8 v6 := AllV.get (P := TxtLe 8) (by repeat' (first | exact trivial | refine ⟨txtLe (a := 8) (by decide +kernel) (by decide), ?_⟩)) hv6
    clear hv6
    refine halt_intro' ?_
    k_steps
    refine ret _ _ _ _ _ _ _ _ _ (keep_of_hide F6.keep) (N6 _ (.tail _ (.head _))).1 hab6 ?_
    omega
end
section
theorem foldL_spec {w : World} {A : Around} {s : Shared} {c : Nat} {t : Tok} (am : Amb w s.heap) (ok : Ok 1 A) {Q : Value → Shared → Prop} {E : Value → Shared → Prop}
  (ret : ∀ h' tk t', Sub s.heap h' → Q (.str ⟨#[foldC c]⟩ t') { s with heap := h', toks := tk }) :
    wpAny (model PySem.Challenge.rw_nt0095_01.row.prog w) A (call (.ref 172) [.str ⟨#[c]⟩ t] []) Q E s := by
  refine wpAny_noRaise ?_
  have X := am.X
  obtain ⟨p, l, mg, mb, T⟩ := am.T
  refine' enterP (binds := [(Str.ofString "sign", .str ⟨#[c]⟩ t)]) ?k1 ?k2 ?k3 ?k4 ?k5 ?k6 ?_ ?c1 ?c2 ?c3 ?c4
  walk_at "ENTERP"
  intro L h₁ hL F N
  (try k_fold)
  k_steps
  · have e : foldC c = ((c : Int) + 32).toNat := by unfold foldC; rw [if_pos (by omega)]; omega
    have this := fun tk t' => ret h₁ tk t' F.keep
    simp only [e] at this
    exact this _ _
  · have e : foldC c = c := by unfold foldC; rw [if_neg (by omega)]
    have this := fun tk t' => ret h₁ tk t' F.keep
    simp only [e] at this
    exact this _ _
  · have e : foldC c = c := by unfold foldC; rw [if_neg (by omega)]
    have this := fun tk t' => ret h₁ tk t' F.keep
    simp only [e] at this
    exact this _ _
end
section
/-- a part as the law writes it -/
def LawAt (tl : Led) (v : Value) (pd : PD) : Prop := match pd with
  | .any => ∃ t, v = .str (Str.ofString "many") t
  | .one => ∃ t, v = .str (Str.ofString "one") t
  | pd => ∃ (r : Addr) (vs : List Value) (n : Nat) (l : List Nat), v = .ref r ∧ (r, listOf vs.toArray n) ∈ tl ∧ StrsAre vs (l.map fun c => ⟨#[c]⟩) ∧ l.length ≤ 100 ∧ ∀ d ∈ alpha, (d ∈ l ↔ takesB pd d = true)
theorem LawAt.mono {a b : Led} (s : LSub a b) {v : Value} {pd : PD} (h : LawAt a v pd) : LawAt b v pd := by
  cases pd with
  | any => obtain ⟨t, e⟩ := h; exact ⟨t, e⟩
  | one => obtain ⟨t, e⟩ := h; exact ⟨t, e⟩
  | sign c => obtain ⟨r, vs, n, l, h1, h2, h3⟩ := h; exact ⟨r, vs, n, l, h1, s _ h2, h3⟩
  | lot rs neg => obtain ⟨r, vs, n, l, h1, h2, h3⟩ := h; exact ⟨r, vs, n, l, h1, s _ h2, h3⟩
theorem lawAt_sign {tl : Led} {r : Addr} {c n : Nat} {t : Tok} (h : (r, listOf [Value.str ⟨#[c]⟩ t].toArray n) ∈ tl) : LawAt tl (.ref r) (.sign c) :=
  ⟨r, _, n, [c], rfl, h, .cons _ _ .nil, Nat.le_of_ble_eq_true rfl, fun d _ => by
    show d ∈ [c] ↔ (c == d) = true
    rw [List.mem_singleton, beq_iff_eq]
    exact eq_comm⟩
def LawRes (tl : Led) (v : Value) : Option (List PD) → Prop
  | none => v = .none
  | some ps => ∃ r vs n, v = .ref r ∧ (r, listOf vs.toArray n) ∈ tl ∧ All2 (LawAt tl) vs ps
/-- an item without an object of its own -/
theorem lturn0 {G h : Heap} {L a : Addr} {k : Nat} {vs : List Value} {tl : Led} {done : List PD} {pd : PD} {v : Value} (N : News G L h ((a, listOf (vs.toArray.push v) (k + 1)) :: tl))
    (hvs : All2 (LawAt tl) vs done) (hp : LawAt [] v pd) :
    News G L h ((a, listOf (vs ++ [v]).toArray (k + 1)) :: tl) ∧ All2 (LawAt tl) (vs ++ [v]) (done ++ [pd]) := by
  rw [List.push_toArray] at N
  exact ⟨N, All2.snoc hvs (hp.mono fun _ h => by cases h)⟩
/-- an item with a list of its own -/
theorem lturn1 {G h : Heap} {L a T : Addr} {k : Nat} {vs : List Value} {tl : Led} {done : List PD} {pd : PD} {o : Obj} {v : Value} (N : News G L h ((T, o) :: (a, listOf (vs.toArray.push v) (k + 1)) :: tl))
    (l1 : @LT.lt Nat _ a T) (hoff : ∀ p ∈ tl, p.1 ≠ a) (hvs : All2 (LawAt tl) vs done) (hp : LawAt [(T, o)] v pd) :
    News G L h ((a, listOf (vs ++ [v]).toArray (k + 1)) :: (T, o) :: tl) ∧ (∀ p ∈ (T, o) :: tl, p.1 ≠ a) ∧ All2 (LawAt ((T, o) :: tl)) (vs ++ [v]) (done ++ [pd]) := by
  rw [List.push_toArray] at N
  refine ⟨?_, ?_, ?_⟩
  · intro p hp
    rcases List.mem_cons.mp hp with rfl | hp
    · exact N _ (.tail _ (.head _))
    · rcases List.mem_cons.mp hp with rfl | hp
      · exact N _ (.head _)
      · exact N _ (.tail _ (.tail _ hp))
  · intro p hp
    rcases List.mem_cons.mp hp with rfl | hp
    · exact Nat.ne_of_gt l1
    · exact hoff p hp
  · refine All2.snoc (hvs.mono fun v p => LawAt.mono (lsub_cons (lsub_refl _))) (hp.mono ?_)
    intro p hp
    rw [List.mem_singleton.mp hp]; exact .head _
theorem News.drop {G h : Heap} {L : Addr} {x : Addr × Obj} {tl : Led} (N : News G L h (x :: tl)) : News G L h tl := fun p hp => N p (.tail _ hp)
end
section
section
local macro_rules | `(tactic| walk_at "exec If") => `(tactic| (k_here; (with_reducible show wpAny _ _ (exec (Stmt.If (Expr.Compare (Expr.Name _ _) _ [Expr.Name _ _] _) _ _ _) _) _ _ _); refine halt_intro ?_))
local macro_rules | `(tactic| walk_at "call ref") => `(tactic| (k_here; (with_reducible show wpAny _ _ (call (Value.ref 172) [Value.str (Str.mk _) _] _) _ _ _); (rename Fr _ _ _ _ => F9); (rename News _ _ _ _ => N9); (k_dflt (refine' foldL_spec ?am ?ok ?_; (case am => exact Amb.up (by assumption) F9.keep); (case ok => (refine Ok.le (Ok.deep ‹Ok _ _› _) ?_; decide)))); intro h' tk' t1' hs'; (have F' := F9.keeps hs'); (have N' := N9.grown hs'); clear F9 N9))
inductive LlInv (esc : Option Nat) (x : Str) (t : Tok) (ev : Value) (a : Addr) (n : Nat) (m : Str → Option Value) (news : List (Addr × Obj)) : Prop
  | mk (at_ : Nat) (t2 : Tok) (vs : List Value) (k : Nat) (tl : Led) (done : List PD) (h1 : news = (a, listOf vs.toArray k) :: tl) (h2 : ∀ p ∈ tl, p.1 ≠ a) (h3 : All2 (LawAt tl) vs done) (h4 : vs.length ≤ at_) (h5 : at_ ≤ x.cps.size) (h6 : likeP esc x.cps.toList = (likeP esc (x.cps.toList.drop at_)).map (done ++ ·))
      (h7 : Has m [(Str.ofString "pattern", .str x t), (Str.ofString "escape", ev), (Str.ofString "found", .ref a), (Str.ofString "at", .int (at_ : Nat) t2)]) (h8 : n = x.cps.size - at_) : LlInv esc x t ev a n m news
theorem lawLike_spec {w : World} {A : Around} {s : Shared} {x : Str} {t : Tok} {esc : Option Nat} {ev : Value} (hev : EscIs esc ev) (am : Amb w s.heap) (ok : Ok 2 A) (hT : x.cps.size ≤ 1000) {Q : Value → Shared → Prop} {E : Value → Shared → Prop}
  (ret : ∀ h' tk v tl, Sub s.heap h' → NewLed s.heap h' tl → LawRes tl v (likeP esc x.cps.toList) → Q v { s with heap := h', toks := tk }) :
    wpAny (model PySem.Challenge.rw_nt0095_01.row.prog w) A (call (.ref 179) [.str x t, ev] []) Q E s := by
  refine wpAny_noRaise ?_
  have X := am.X
  obtain ⟨p, l, mg, mb, T⟩ := am.T
  have hT2 : x.cps.toList.length = x.cps.size := by simp
  refine' enterP (binds := [(Str.ofString "pattern", .str x t), (Str.ofString "escape", ev)]) ?k1 ?k2 ?k3 ?k4 ?k5 ?k6 ?_ ?c1 ?c2 ?c3 ?c4
  walk_at "ENTERP"
  intro L h₁ hL F N
  (try k_fold)
  k_steps
  refine halt_intro' ?_
  rename_i a _ _ _ _ _ _ _ _ F2 N2
  replace N2 := News.drop N2
  (try k_fold)
  refine while_inv (LlInv esc x t ev a) _ F2 N2
    ⟨0, _, [], _, [], [], rfl, (fun _ hp => nomatch hp), .nil, Nat.le_refl _, Nat.zero_le _, by simp, ⟨rfl, rfl, rfl, rfl, trivial⟩, rfl⟩ ?_
  rintro n m news h tk ⟨at_, t2, vs, k, tl, done, rfl, hoff, hvs, hvl, hle, hres, hm, rfl⟩ F3 N3
  have F4 := frMany hm F3
  clear F3 F2 N2
  by_cases hat : at_ < x.cps.size
  · obtain ⟨c, hc⟩ : ∃ c, x.cps[at_]? = some c := ⟨x.cps[at_], by simp [hat]⟩
    have hcl : x.cps.toList[at_]? = some c := by rw [Array.getElem?_toList]; exact hc
    rw [drop_cons hcl] at hres
    by_cases hce : esc = some c
    · subst hce
      obtain ⟨u, rfl⟩ := hev
      by_cases hlast : at_ + 1 = x.cps.size
      · have hnil : x.cps.toList.drop (at_ + 1) = [] := List.drop_eq_nil_of_le (by omega)
        rw [hnil, likeP_end] at hres
        (try k_fold)
        k_steps
        refine halt_intro' (wpAny_If ?_)
        (try k_fold)
        k_steps
        (rename Fr _ _ _ _ => F')
        refine ret _ _ _ [] F'.keep (fun _ hp => nomatch hp) ?_
        rw [hres]
        exact rfl
      · obtain ⟨d, hd⟩ : ∃ d, x.cps[at_ + 1]? = some d := ⟨x.cps[at_ + 1]'(by omega), by simp⟩
        have hdl : x.cps.toList[at_ + 1]? = some d := by rw [Array.getElem?_toList]; exact hd
        rw [drop_cons hdl, likeP_esc, map_snoc] at hres
        have hdn : Nxt x (at_ + 1) d := hd
        clear hd
        (try k_fold)
        k_steps
        refine halt_intro' (wpAny_If ?_)
        (try k_fold)
        k_steps
        (rename _ ∧ AllLt _ _ => l1); (rename Fr _ _ _ _ => F'); (rename News _ _ _ _ => N')
        obtain ⟨N2, off2, hv2⟩ := lturn1 (pd := .sign (foldC d)) N' l1.1 hoff hvs (lawAt_sign (.head _))
        exact ⟨_, _, _, _, _, (by omega : x.cps.size - (at_ + 2) < x.cps.size - at_), rfl, F', N2, at_ + 2, _, _, _, _, _, rfl, off2, hv2, by simp; omega, by omega, hres, ⟨rfl, rfl, rfl, rfl, trivial⟩, rfl⟩
    · rw [likeP_plain hce, map_snoc] at hres
      (try k_fold)
      k_steps
      refine halt_intro' (wpAny_If (join_test false ?_ fun tk => ?_))
      · cases esc with
        | none =>
          cases (show ev = .none from hev)
          (try k_fold)
          k_steps
          exact ⟨rfl, _, rfl⟩
        | some e =>
          obtain ⟨u, rfl⟩ := hev
          have hce : ¬ c = e := fun q => hce (by rw [q])
          (try k_fold)
          k_steps
          exact ⟨decide_eq_false hce, _, rfl⟩
      simp only [Bool.false_eq_true, if_false]
      k_steps
      · (rename c = 37 => e1)
        rw [show likeC c = .any from by simp [likeC, e1]] at hres
        (rename Fr _ _ _ _ => F'); (rename News _ _ _ _ => N')
        obtain ⟨N2, hv2⟩ := lturn0 (pd := .any) N' hvs ⟨_, rfl⟩
        exact ⟨_, _, _, _, _, (by omega : x.cps.size - (at_ + 1) < x.cps.size - at_), rfl, F', N2, at_ + 1, _, _, _, _, _, rfl, hoff, hv2, by simp; omega, by omega, hres, ⟨rfl, rfl, rfl, rfl, trivial⟩, rfl⟩
      · (rename ¬ c = 37 => e1); (rename c = 95 => e2)
        rw [show likeC c = .one from by simp [likeC, e2]] at hres
        (rename Fr _ _ _ _ => F'); (rename News _ _ _ _ => N')
        obtain ⟨N2, hv2⟩ := lturn0 (pd := .one) N' hvs ⟨_, rfl⟩
        exact ⟨_, _, _, _, _, (by omega : x.cps.size - (at_ + 1) < x.cps.size - at_), rfl, F', N2, at_ + 1, _, _, _, _, _, rfl, hoff, hv2, by simp; omega, by omega, hres, ⟨rfl, rfl, rfl, rfl, trivial⟩, rfl⟩
      · (rename ¬ c = 37 => e1); (rename ¬ c = 95 => e2)
        rw [show likeC c = .sign (foldC c) from by simp [likeC, e1, e2]] at hres
        (rename _ ∧ AllLt _ _ => l1); (rename Fr _ _ _ _ => F'); (rename News _ _ _ _ => N')
        obtain ⟨N2, off2, hv2⟩ := lturn1 (pd := .sign (foldC c)) N' l1.1 hoff hvs (lawAt_sign (.head _))
        exact ⟨_, _, _, _, _, (by omega : x.cps.size - (at_ + 1) < x.cps.size - at_), rfl, F', N2, at_ + 1, _, _, _, _, _, rfl, off2, hv2, by simp; omega, by omega, hres, ⟨rfl, rfl, rfl, rfl, trivial⟩, rfl⟩
  · have hdone : x.cps.toList.drop at_ = [] := List.drop_eq_nil_of_le (by omega)
    rw [hdone] at hres
    (try k_fold)
    k_steps
    refine ret _ _ _ ((a, listOf vs.toArray k) :: tl) F4.keep (NewLed.of N3) ?_
    rw [hres]
    simp only [likeP, Option.map_some, List.append_nil]
    exact ⟨a, vs, k, rfl, .head _, hvs.mono fun v p => LawAt.mono (lsub_cons (lsub_refl _))⟩
end
end
section
theorem foldl_rep {α : Type} (v : α) : ∀ (n : Nat) (acc : Array α), List.foldl (fun x1 x2 => x1 ++ x2) acc (List.replicate n #[v]) = acc ++ (List.replicate n v).toArray := by
  intro n
  induction n with
  | zero => intro acc; simp
  | succ n ih =>
    intro acc
    rw [List.replicate_succ, List.foldl_cons, ih, List.replicate_succ]
    apply Array.toList_inj.mp
    simp
section
variable {prog : Program} {w : World} {A : Around} {E : Value → Shared → Prop} {s : Shared} {G : Heap} {L : Addr} {m : Str → Option Value} {news : Led}
theorem mul_one {l : Addr} {v : Value} {k : Nat} {x : Int} {T : Nat} {u : Tok} {Q : Value → Shared → Prop} (F : Fr G L s.heap m) (N : News G L s.heap news) (hm : (l, listOf [v].toArray k) ∈ news) (hx : x = (T : Nat)) (hT : T ≤ 1000)
    (h : ∀ D h', D = s.heap.objs.size → Fr G L h' m → News G L h' ((D, listOf (List.replicate T v).toArray 0) :: news) → Q (.ref D) { s with heap := h' }) :
    wpAny (model prog w) A (binaryOp .Mult (.ref l) (.int x u)) Q E s := by
  subst hx
  refine mul_list F N (N _ hm).1 (by omega) (by omega) (by show 1 * _ ≤ _; omega) (fun h' F' N' => h _ h' rfl F' ?_)
  have e : (List.foldl (fun x1 x2 => x1 ++ x2) #[] (List.replicate (if ([v].toArray).isEmpty = true then 0 else ((T : Int)).toNat) [v].toArray)) = (List.replicate T v).toArray := by
    rw [if_neg (by simp)]
    show List.foldl _ #[] (List.replicate ((T : Int)).toNat #[v]) = _
    rw [foldl_rep, Int.toNat_natCast]
    simp
  rw [e] at N'
  exact N'
theorem add_led {l b : Addr} {vs ws : List Value} {k j : Nat} {Q : Value → Shared → Prop} (F : Fr G L s.heap m) (N : News G L s.heap news) (hl : (l, listOf vs.toArray k) ∈ news) (hb : (b, listOf ws.toArray j) ∈ news) (hsz : vs.length + ws.length ≤ 100000)
    (h : ∀ D h', D = s.heap.objs.size → Fr G L h' m → News G L h' ((D, listOf (vs ++ ws).toArray 0) :: news) → Q (.ref D) { s with heap := h' }) :
    wpAny (model prog w) A (binaryOp .Add (.ref l) (.ref b)) Q E s := by
  refine add_arrays F N (N.isList hl) (N.isList hb) (fun h' F' N' => h _ h' rfl F' N') ?_
  rw [List.size_toArray, List.size_toArray, sizeLine_eq]; omega
end
open LSm in
theorem boolsAre_rep (n : Nat) : BoolsAre (List.replicate n (.bool false)) (List.replicate n false) := by
  induction n with
  | zero => exact .nil
  | succ n ih => exact .cons _ ih
open LSm in
theorem boolsAre_snoc {vs : List Value} {bs : List Bool} {b : Bool} (h : BoolsAre vs bs) : BoolsAre (vs ++ [.bool b]) (bs ++ [b]) := kbo_app h (.cons _ .nil)
theorem takeSnoc {α : Type} {l : List α} {j : Nat} {c : α} (h : l[j]? = some c) : l.take (j + 1) = l.take j ++ [c] := by rw [List.take_add_one, h]; rfl
section
open LSm
variable {prog : Program} {w : World} {A : Around} {E : Value → Shared → Prop} {s : Shared} {G : Heap} {L : Addr} {m : Str → Option Value} {news : Led} {value slice : Expr}
theorem item_row {l : Addr} {vs : List Value} {bs : List Bool} {k : Int} {j n : Nat} {u : Tok} {b : Bool} {Q : Value → Shared → Prop} (N : News G L s.heap news) (hm : (l, listOf vs.toArray n) ∈ news) (hb : BoolsAre vs bs) (hj : bs[j]? = some b) (hk : k = (j : Nat)) (hl : bs.length ≤ 100000) (h : Q (.bool b) s)
    (hs : subscripted slice false (.ref l) (.int k u) = operate [.ref l, .int k u] (getItem (.ref l) (.int k u)) := by with_unfolding_all rfl) :
    wpAny (model prog w) A (subscriptTail value slice (.ref l) (.int k u)) Q E s := by
  subst hk
  have hL : s.heap.IsList l vs.toArray := N.isList hm
  have hlt := (List.getElem?_eq_some_iff.mp hj).1
  have hv : vs[j]? = some (.bool b) := by
    have := kbo_at hb j hlt
    rw [this, List.getD_eq_getElem?_getD, hj]; rfl
  exact tail_any hL.typeIs slot_list_getitem.lookup (wpAny_getItem_list hL (by omega) (by omega) (by simpa using hv) h) hs
theorem item_last {l : Addr} {vs : List Value} {bs : List Bool} {j n : Nat} {u : Tok} {b : Bool} {Q : Value → Shared → Prop} (N : News G L s.heap news) (hm : (l, listOf vs.toArray n) ∈ news) (hb : BoolsAre vs bs) (hj : bs[j]? = some b) (hl : bs.length = j + 1) (hl2 : bs.length ≤ 100000) (h : Q (.bool b) s)
    (hs : subscripted slice false (.ref l) (.int (-1) u) = operate [.ref l, .int (-1) u] (getItem (.ref l) (.int (-1) u)) := by with_unfolding_all rfl) :
    wpAny (model prog w) A (subscriptTail value slice (.ref l) (.int (-1) u)) Q E s := by
  have hL : s.heap.IsList l vs.toArray := N.isList hm
  have hv : vs[j]? = some (.bool b) := by
    have := kbo_at hb j (by omega)
    rw [this, List.getD_eq_getElem?_getD, hj]; rfl
  have hvl := hb.length
  refine tail_any hL.typeIs slot_list_getitem.lookup (wpAny_getItem_list_neg hL (by omega) (by simp; omega) (by omega) ?_ h) hs
  have e : ((-1 : Int) + (vs.toArray.size : Nat)).toNat = j := by simp; omega
  rw [e]; simpa using hv
theorem in_base {l : Addr} {vs : List Value} {cs : List Nat} {c : Nat} {t : Tok} {Q : Value → Shared → Prop} (F : Fr G L s.heap m) (hl : G.IsList l vs.toArray) (hi : StrsAre vs (cs.map fun c => ⟨#[c]⟩)) (h : Q (.bool (decide (c ∈ cs))) s) :
    wpAny (model prog w) A (compareOp .In (.str ⟨#[c]⟩ t) (.ref l)) Q E s := by
  refine in_list_strs (hl.at fun o e => F.keep l o e) hi ?_
  have e : ((cs.map fun c => (⟨#[c]⟩ : Str)).any (· == ⟨#[c]⟩)) = decide (c ∈ cs) := by
    rw [List.any_map, Bool.eq_iff_iff, List.any_eq_true, decide_eq_true_iff]
    constructor
    · rintro ⟨d, hd, he⟩
      have he2 : ((⟨#[d]⟩ : Str) == ⟨#[c]⟩) = true := he
      have e3 : d = c := by
        have := eq_of_beq he2
        injection this with this
        simpa using this
      rw [← e3]; exact hd
    · intro hc
      exact ⟨c, hc, by show ((⟨#[c]⟩ : Str) == ⟨#[c]⟩) = true; simp⟩
  rw [e]; exact h
end
theorem eq_list_str {prog : Program} {w : World} {A : Around} {E : Value → Shared → Prop} {s : Shared} {G : Heap} {L : Addr} {m : Str → Option Value} {l : Addr} {vs : List Value} {y : Str} {u : Tok} {v v' : Value} {Q : Value → Shared → Prop} (hv : v = .ref l) (hv' : v' = .str y u) (F : Fr G L s.heap m) (hl : G.IsList l vs.toArray) (hu : A.units < cLine) (h : Q (.bool false) s) :
    wpAny (model prog w) A (compareOp .Eq v v') Q E s := by
  subst hv hv'
  show wpAny _ _ (richCompare .Eq _ _) Q E s
  exact SeqAt.RcAt.list_str y u (hl.at fun o e => F.keep l o e) hu prog w E Q h
end
section
theorem fitsN_spec {w : World} {A : Around} {s : Shared} {x : Str} {t : Tok} (am : Amb w s.heap) (ok : Ok 1 A) {Q : Value → Shared → Prop} {E : Value → Shared → Prop}
  (ret : ∀ h' tk, Sub s.heap h' → Q (.bool false) { s with heap := h', toks := tk }) :
    wpAny (model PySem.Challenge.rw_nt0095_01.row.prog w) A (call (.ref 198) [.none, .str x t] []) Q E s := by
  refine wpAny_noRaise ?_
  have X := am.X
  obtain ⟨p, l, mg, mb, T⟩ := am.T
  refine' enterP (binds := [(Str.ofString "parts", .none), (Str.ofString "text", .str x t)]) ?k1 ?k2 ?k3 ?k4 ?k5 ?k6 ?_ ?c1 ?c2 ?c3 ?c4
  walk_at "ENTERP"
  intro L h₁ hL F N
  (try k_fold)
  k_steps
  exact ret _ _ F.keep
section
open LSm
local macro_rules | `(tactic| walk_at "subscriptTail Name UnaryOp ref int") => `(tactic| (k_here; refine halt_intro ?_))
local macro_rules | `(tactic| walk_at "binaryOp Mult ref int") => `(tactic| (k_here; (with_reducible show wpAny _ _ (binaryOp Operator.Mult (Value.ref _) (Value.int _ _)) _ _ _); (rename Fr _ _ _ _ => F9); (rename News _ _ _ _ => N9); refine' mul_one F9 N9 ?hm ?hx ?hT ?_; (case hm => k_mem); (case hx => exact rfl); (case hT => omega); clear F9 N9; intro D' h' hD' F' N'))
local macro_rules | `(tactic| walk_at "binaryOp Add ref ref") => `(tactic| (k_here; (with_reducible show wpAny _ _ (binaryOp Operator.Add (Value.ref _) (Value.ref _)) _ _ _); (rename Fr _ _ _ _ => F9); (rename News _ _ _ _ => N9); refine' add_led F9 N9 ?hm ?hb ?hT ?_; (case hm => k_mem); (case hb => k_mem); (case hT => (simp only [List.length_cons, List.length_nil, List.length_replicate]; omega)); clear F9 N9; intro D' h' hD' F' N'))
local macro_rules | `(tactic| walk_at "SUBR") => `(tactic| (k_here; k_dflt (refine' item_row ?N ?hm ?hb ?hj ?hk ?hl ?_; (case N => k_asm); (case hm => k_mem); (case hb => assumption); (case hj => assumption); (case hk => first | rfl | omega); (case hl => omega); k_whole)))
local macro_rules | `(tactic| walk_at "compareOp In str ref") => `(tactic| (k_here; k_dflt (refine' in_base ?F ?hl ?hi ?_; (case F => k_asm); (case hl => assumption); (case hi => assumption); k_whole)))
local macro_rules | `(tactic| walk_at "compareOp Eq ref str") => `(tactic| (k_here; k_dflt (refine' eq_list_str ?hv ?hv' ?F ?hl ?hu ?_; (case hv => exact rfl); (case hv' => exact rfl); (case F => k_asm); (case hl => assumption); (case hu => exact (Ok.deep ‹Ok _ _› _).units); k_whole)))
inductive FiIn (x : Str) (t : Tok) (r ra I la : Addr) (oI : Obj) (rv : List Value) (n : Nat) (qs : List PD) (pv : Value) (j : Nat) (m : Str → Option Value) (news : List (Addr × Obj)) : Prop
  | mk (lv : List Value) (k : Nat) (ls : List Bool) (q1 : news = [(la, listOf lv.toArray k), (I, oI), (ra, listOf rv.toArray n)]) (q2 : BoolsAre lv ls) (q3 : RowIs qs x.cps.toList (j + 1) ls) (q4 : Has m [(Str.ofString "parts", .ref r), (Str.ofString "text", .str x t), (Str.ofString "row", .ref ra), (Str.ofString "part", pv), (Str.ofString "later", .ref la)]) : FiIn x t r ra I la oI rv n qs pv j m news
inductive FiOut (x : Str) (t : Tok) (r : Addr) (ps : List PD) (i : Nat) (m : Str → Option Value) (news : List (Addr × Obj)) : Prop
  | mk (ra : Addr) (rv : List Value) (n : Nat) (bs : List Bool) (q1 : news = [(ra, listOf rv.toArray n)]) (q2 : BoolsAre rv bs) (q3 : RowIs (ps.take i) x.cps.toList (x.cps.size + 1) bs) (q4 : Has m [(Str.ofString "parts", .ref r), (Str.ofString "text", .str x t), (Str.ofString "row", .ref ra)]) : FiOut x t r ps i m news
theorem fits_spec {w : World} {A : Around} {s : Shared} {tl : Led} {r : Addr} {vs : List Value} {n0 : Nat} {ps : List PD} {x : Str} {t : Tok} (am : Amb w s.heap) (ok : Ok 1 A) (hs : Stands s.heap tl) (hr : (r, listOf vs.toArray n0) ∈ tl) (hvs : All2 (LawAt tl) vs ps) (hP : vs.length ≤ 1000) (hT : x.cps.size ≤ 100) (hal : ∀ c ∈ x.cps.toList, c ∈ alpha) {Q : Value → Shared → Prop} {E : Value → Shared → Prop}
  (ret : ∀ h' tk b, Sub s.heap h' → (b = true ↔ Mt ps x.cps.toList) → Q (.bool b) { s with heap := h', toks := tk }) :
    wpAny (model PySem.Challenge.rw_nt0095_01.row.prog w) A (call (.ref 198) [.ref r, .str x t] []) Q E s := by
  refine wpAny_noRaise ?_
  have X := am.X
  obtain ⟨p, l, mg, mb, T⟩ := am.T
  have hlist : s.heap.IsList r vs.toArray := ⟨_, hs _ hr, rfl, _, rfl⟩
  have hlen := hvs.length
  have hT2 : x.cps.toList.length = x.cps.size := by simp
  refine' enterP (binds := [(Str.ofString "parts", .ref r), (Str.ofString "text", .str x t)]) ?k1 ?k2 ?k3 ?k4 ?k5 ?k6 ?_ ?c1 ?c2 ?c3 ?c4
  walk_at "ENTERP"
  intro L h₁ hL F N
  (try k_fold)
  k_steps
  refine halt_intro' ?_
  (rename Fr _ _ _ _ => F2)
  refine forF s.heap rfl rfl ?_
  (try k_fold)
  k_steps
  rename_i ra _ _ _ N2 _ _
  have N3 : News s.heap L _ [(ra, listOf ([Value.bool true] ++ List.replicate x.cps.size (Value.bool false)).toArray 0)] := fun p hp => N2 p (by rw [List.mem_singleton.mp hp]; exact .head _)
  clear N2
  have hrow0 : RowIs [] x.cps.toList (x.cps.size + 1) ([true] ++ List.replicate x.cps.size false) := by
    have := row_start (tx := x.cps.toList)
    rw [hT2] at this; exact this
  refine loop_list ok.1 hlist F2 N3 (FiOut x t r ps)
    ⟨_, _, _, _, rfl, .cons _ (boolsAre_rep _), hrow0, ⟨rfl, rfl, rfl, trivial⟩⟩ ?_ ?_
  · clear F2 N3 hrow0
    rintro i v m news h tk I oI hv ⟨ra, rv, n, bs, rfl, hrv, hrow, hm⟩ hoff hlt F3 N3
    clear hlt
    obtain ⟨pd, hpd, hlaw⟩ := hvs.getL _ _ hv
    have hm2 : Has (fun y => if y = Str.ofString "part" then some v else m y) [(Str.ofString "parts", .ref r), (Str.ofString "text", .str x t), (Str.ofString "row", .ref ra), (Str.ofString "part", v)] := ⟨hm.1, hm.2.1, hm.2.2.1, rfl, trivial⟩
    have F4 := frMany hm2 F3
    clear F3
    have hbl := hrow.1
    obtain ⟨b0, hb0⟩ : ∃ b, bs[0]? = some b := ⟨bs[0]'(by omega), by simp⟩
    have hps : ps.take (i + 1) = ps.take i ++ [pd] := takeSnoc hpd
    by_cases hany : pd = .any
    · subst hany
      obtain ⟨t1, rfl⟩ := hlaw
      (try k_fold)
      k_steps
      refine halt_intro' ?_
      rename_i la _ _ _ l5 _ F5 N5 _ _
      refine forF s.heap rfl rfl ?_
      (try k_fold)
      k_steps
      (rename IsRange _ _ _ _ _ _ _ _ => hr); (rename Fr _ _ _ _ => F6); (rename News _ _ _ _ => N6)
      refine loop_range (n := x.cps.size) ok.1 hr rfl (by omega) F6 N6 (FiIn x t r ra I la oI rv n (ps.take i ++ [PD.any]) (.str (Str.ofString "many") t1))
        ⟨_, _, _, rfl, .cons _ .nil, row_first (by rw [mt_snoc_any0]; exact hrow.2 0 b0 hb0), ⟨rfl, rfl, rfl, rfl, rfl, trivial⟩⟩ ?_ ?_
      · clear N6 F6 hr
        rintro j tj m news h tk I2 oI2 hj ⟨lv, k, ls, rfl, hlv, hls, hm⟩ hoff2 hlt2 F7 N7
        have hla2 : @LT.lt Nat _ la I2 := hlt2 (la, _) (.head _)
        clear hlt2
        have hm3 : Has (fun y => if y = Str.ofString "at" then some (Value.int (j : Nat) tj) else m y) [(Str.ofString "parts", .ref r), (Str.ofString "text", .str x t), (Str.ofString "row", .ref ra), (Str.ofString "part", .str (Str.ofString "many") t1), (Str.ofString "later", .ref la), (Str.ofString "at", .int (j : Nat) tj)] := ⟨hm.1, hm.2.1, hm.2.2.1, hm.2.2.2.1, hm.2.2.2.2.1, rfl, trivial⟩
        have F8 := frMany hm3 F7
        clear F7
        obtain ⟨c, hc⟩ : ∃ c, x.cps[j]? = some c := ⟨x.cps[j], by simp [hj]⟩
        have hcl : x.cps.toList[j]? = some c := by rw [Array.getElem?_toList]; exact hc
        have hoff2' : ∀ (o : Obj), ∀ p ∈ [(la, o), (I, oI), (ra, listOf rv.toArray n)], p.1 ≠ I2 := fun o p hp => by
          rcases List.mem_cons.mp hp with rfl | hp
          · exact hoff2 (la, listOf lv.toArray k) (.head _)
          · exact hoff2 p (List.mem_cons_of_mem _ hp)
        obtain ⟨b1, hb1⟩ : ∃ b, ls[j]? = some b := ⟨ls[j]'(by have := hls.1; omega), by simp⟩
        obtain ⟨b2, hb2⟩ : ∃ b, bs[j + 1]? = some b := ⟨bs[j + 1]'(by omega), by simp⟩
        have key : (b1 || b2) = true ↔ Mt (ps.take i ++ [PD.any]) (x.cps.toList.take (j + 1)) := by
          rw [take_snoc hcl, mt_snoc_any, ← hls.2 j b1 hb1, ← take_snoc hcl, ← hrow.2 (j + 1) b2 hb2, Bool.or_eq_true]
        have hll := hls.1
        have hlvl := hlv.length
        cases b1 <;> cases b2
        all_goals
          (try k_fold)
          k_steps
          (rename Fr _ _ _ _ => F'); (rename News _ _ _ _ => N')
          rw [List.push_toArray] at N'
          exact ⟨_, _, _, _, rfl, F', N', hoff2' _, _, _, _, rfl, boolsAre_snoc hlv, row_snoc hls key, ⟨rfl, rfl, rfl, rfl, rfl, trivial⟩⟩
      · rintro m news h tk ⟨lv, k, ls, rfl, hlv, hls, hm⟩ F7 N7
        clear N6 F6 hr
        have F8 := frMany hm F7
        clear F7
        (try k_fold)
        k_steps
        (rename Fr _ _ _ _ => F'); (rename News _ _ _ _ => N')
        exact ⟨_, _, _, [(la, _)], rfl, F', fun p hp => N' p (by
            rcases List.mem_cons.mp hp with rfl | hp
            · exact .tail _ (.head _)
            · rw [List.mem_singleton.mp hp]; exact .head _), fun p hp => by rw [List.mem_singleton.mp hp]; exact Nat.ne_of_gt l5.1, la, _, _, _, rfl, hlv, by rw [hps]; exact hls, ⟨rfl, rfl, rfl, trivial⟩⟩
    · by_cases hone : pd = .one
      · subst hone
        obtain ⟨t1, rfl⟩ := hlaw
        (try k_fold)
        k_steps
        refine halt_intro' ?_
        rename_i la _ _ _ l5 _ F5 N5 _ _
        refine forF s.heap rfl rfl ?_
        (try k_fold)
        k_steps
        (rename IsRange _ _ _ _ _ _ _ _ => hr); (rename Fr _ _ _ _ => F6); (rename News _ _ _ _ => N6)
        refine loop_range (n := x.cps.size) ok.1 hr rfl (by omega) F6 N6 (FiIn x t r ra I la oI rv n (ps.take i ++ [PD.one]) (.str (Str.ofString "one") t1))
          ⟨_, _, _, rfl, .cons _ .nil, row_first (b := false) (by simp [mt_snoc_one0 hany]), ⟨rfl, rfl, rfl, rfl, rfl, trivial⟩⟩ ?_ ?_
        · clear N6 F6 hr
          rintro j tj m news h tk I2 oI2 hj ⟨lv, k, ls, rfl, hlv, hls, hm⟩ hoff2 hlt2 F7 N7
          have hla2 : @LT.lt Nat _ la I2 := hlt2 (la, _) (.head _)
          clear hlt2
          have hm3 : Has (fun y => if y = Str.ofString "at" then some (Value.int (j : Nat) tj) else m y) [(Str.ofString "parts", .ref r), (Str.ofString "text", .str x t), (Str.ofString "row", .ref ra), (Str.ofString "part", .str (Str.ofString "one") t1), (Str.ofString "later", .ref la), (Str.ofString "at", .int (j : Nat) tj)] := ⟨hm.1, hm.2.1, hm.2.2.1, hm.2.2.2.1, hm.2.2.2.2.1, rfl, trivial⟩
          have F8 := frMany hm3 F7
          clear F7
          obtain ⟨c, hc⟩ : ∃ c, x.cps[j]? = some c := ⟨x.cps[j], by simp [hj]⟩
          have hcl : x.cps.toList[j]? = some c := by rw [Array.getElem?_toList]; exact hc
          have hoff2' : ∀ (o : Obj), ∀ p ∈ [(la, o), (I, oI), (ra, listOf rv.toArray n)], p.1 ≠ I2 := fun o p hp => by
            rcases List.mem_cons.mp hp with rfl | hp
            · exact hoff2 (la, listOf lv.toArray k) (.head _)
            · exact hoff2 p (List.mem_cons_of_mem _ hp)
          obtain ⟨b3, hb3⟩ : ∃ b, bs[j]? = some b := ⟨bs[j]'(by omega), by simp⟩
          have key : (b3 && true) = true ↔ Mt (ps.take i ++ [PD.one]) (x.cps.toList.take (j + 1)) := by
            rw [take_snoc hcl, mt_snoc_one hany, ← hrow.2 j b3 hb3, Bool.and_eq_true]; exact and_congr_right fun _ => (by simp [takesB])
          have hll := hls.1
          have hlvl := hlv.length
          cases b3
          all_goals
            (try k_fold)
            k_steps
            (rename Fr _ _ _ _ => F'); (rename News _ _ _ _ => N')
            rw [List.push_toArray] at N'
            exact ⟨_, _, _, _, rfl, F', N', hoff2' _, _, _, _, rfl, boolsAre_snoc hlv, row_snoc hls key, ⟨rfl, rfl, rfl, rfl, rfl, trivial⟩⟩
        · rintro m news h tk ⟨lv, k, ls, rfl, hlv, hls, hm⟩ F7 N7
          clear N6 F6 hr
          have F8 := frMany hm F7
          clear F7
          (try k_fold)
          k_steps
          (rename Fr _ _ _ _ => F'); (rename News _ _ _ _ => N')
          exact ⟨_, _, _, [(la, _)], rfl, F', fun p hp => N' p (by
              rcases List.mem_cons.mp hp with rfl | hp
              · exact .tail _ (.head _)
              · rw [List.mem_singleton.mp hp]; exact .head _), fun p hp => by rw [List.mem_singleton.mp hp]; exact Nat.ne_of_gt l5.1, la, _, _, _, rfl, hlv, by rw [hps]; exact hls, ⟨rfl, rfl, rfl, trivial⟩⟩
      · obtain ⟨r2, lvs, n2, cs, rfl, hr2, hlvs, hcsl, hcs⟩ : ∃ (r : Addr) (vs : List Value) (n : Nat) (l : List Nat), v = .ref r ∧ (r, listOf vs.toArray n) ∈ tl ∧ StrsAre vs (l.map fun c => ⟨#[c]⟩) ∧ l.length ≤ 100 ∧ ∀ d ∈ alpha, (d ∈ l ↔ takesB pd d = true) := by
          cases pd with
          | any => exact absurd rfl hany
          | one => exact absurd rfl hone
          | sign c => exact hlaw
          | lot rs neg => exact hlaw
        have hlist2 : s.heap.IsList r2 lvs.toArray := ⟨_, hs _ hr2, rfl, _, rfl⟩
        (try k_fold)
        k_steps
        refine halt_intro' ?_
        rename_i la _ _ _ l5 _ F5 N5 _ _
        refine forF s.heap rfl rfl ?_
        (try k_fold)
        k_steps
        (rename IsRange _ _ _ _ _ _ _ _ => hr); (rename Fr _ _ _ _ => F6); (rename News _ _ _ _ => N6)
        refine loop_range (n := x.cps.size) ok.1 hr rfl (by omega) F6 N6 (FiIn x t r ra I la oI rv n (ps.take i ++ [pd]) (.ref r2))
          ⟨_, _, _, rfl, .cons _ .nil, row_first (b := false) (by simp [mt_snoc_one0 hany]), ⟨rfl, rfl, rfl, rfl, rfl, trivial⟩⟩ ?_ ?_
        · clear N6 F6 hr
          rintro j tj m news h tk I2 oI2 hj ⟨lv, k, ls, rfl, hlv, hls, hm⟩ hoff2 hlt2 F7 N7
          have hla2 : @LT.lt Nat _ la I2 := hlt2 (la, _) (.head _)
          clear hlt2
          have hm3 : Has (fun y => if y = Str.ofString "at" then some (Value.int (j : Nat) tj) else m y) [(Str.ofString "parts", .ref r), (Str.ofString "text", .str x t), (Str.ofString "row", .ref ra), (Str.ofString "part", .ref r2), (Str.ofString "later", .ref la), (Str.ofString "at", .int (j : Nat) tj)] := ⟨hm.1, hm.2.1, hm.2.2.1, hm.2.2.2.1, hm.2.2.2.2.1, rfl, trivial⟩
          have F8 := frMany hm3 F7
          clear F7
          obtain ⟨c, hc⟩ : ∃ c, x.cps[j]? = some c := ⟨x.cps[j], by simp [hj]⟩
          have hcl : x.cps.toList[j]? = some c := by rw [Array.getElem?_toList]; exact hc
          have hoff2' : ∀ (o : Obj), ∀ p ∈ [(la, o), (I, oI), (ra, listOf rv.toArray n)], p.1 ≠ I2 := fun o p hp => by
            rcases List.mem_cons.mp hp with rfl | hp
            · exact hoff2 (la, listOf lv.toArray k) (.head _)
            · exact hoff2 p (List.mem_cons_of_mem _ hp)
          obtain ⟨b3, hb3⟩ : ∃ b, bs[j]? = some b := ⟨bs[j]'(by omega), by simp⟩
          have key : (b3 && decide (c ∈ cs)) = true ↔ Mt (ps.take i ++ [pd]) (x.cps.toList.take (j + 1)) := by
            rw [take_snoc hcl, mt_snoc_one hany, ← hrow.2 j b3 hb3, Bool.and_eq_true, decide_eq_true_iff, hcs c (hal c (List.mem_of_getElem? hcl))]
          have hll := hls.1
          have hlvl := hlv.length
          cases b3
          all_goals
            (try k_fold)
            k_steps
            (rename Fr _ _ _ _ => F'); (rename News _ _ _ _ => N')
            rw [List.push_toArray] at N'
            exact ⟨_, _, _, _, rfl, F', N', hoff2' _, _, _, _, rfl, boolsAre_snoc hlv, row_snoc hls key, ⟨rfl, rfl, rfl, rfl, rfl, trivial⟩⟩
        · rintro m news h tk ⟨lv, k, ls, rfl, hlv, hls, hm⟩ F7 N7
          clear N6 F6 hr
          have F8 := frMany hm F7
          clear F7
          (try k_fold)
          k_steps
          (rename Fr _ _ _ _ => F'); (rename News _ _ _ _ => N')
          exact ⟨_, _, _, [(la, _)], rfl, F', fun p hp => N' p (by
              rcases List.mem_cons.mp hp with rfl | hp
              · exact .tail _ (.head _)
              · rw [List.mem_singleton.mp hp]; exact .head _), fun p hp => by rw [List.mem_singleton.mp hp]; exact Nat.ne_of_gt l5.1, la, _, _, _, rfl, hlv, by rw [hps]; exact hls, ⟨rfl, rfl, rfl, trivial⟩⟩
  · rintro m news h tk ⟨ra, rv, n, bs, rfl, hrv, hrow, hm⟩ F3 N3
    clear F2
    have F4 := frMany hm F3
    clear F3
    have hbl := hrow.1
    obtain ⟨b, hb⟩ : ∃ b, bs[x.cps.size]? = some b := ⟨bs[x.cps.size]'(by omega), by simp⟩
    have hfin := hrow.2 _ _ hb
    rw [show ps.take vs.length = ps from by rw [hlen]; exact List.take_length, show x.cps.toList.take x.cps.size = x.cps.toList from List.take_of_length_le (by omega)] at hfin
    (try k_fold)
    k_steps
    refine halt_intro' (item_last N3 (.head _) hrv hb hbl (by omega) ?_)
    (try k_fold)
    k_steps
    exact ret _ _ _ F4.keep hfin
end
end
section
open PySem.Builtin PySem.Builtin.Str in
theorem indices_hi {n : Nat} {lo : Option Int} {j : Int} (h : (n : Int) ≤ j) : strSliceIndices lo (some j) 1 n = strSliceIndices lo (some (n : Int)) 1 n := by
  have h0 : ¬ j < 0 := by omega
  have h1 : ¬ ((n : Int) < 0) := by omega
  have h2 : (1 : Int) > 0 := by decide
  simp only [strSliceIndices, h0, h1, h2, if_false, if_true, Int.min_eq_right h, Int.min_self]
theorem sl_hi {x : Str} {lo : Option Int} {j : Int} (h : (x.cps.size : Int) ≤ j) : Txt.slice x lo (some j) = Txt.slice x lo (some (x.cps.size : Int)) := by
  unfold Txt.slice
  show (if ((1 : Int) == 1 && (Builtin.Str.strSliceIndices lo (some j) 1 x.cps.size).length == x.length) = true then x else ⟨((Builtin.Str.strSliceIndices lo (some j) 1 x.cps.size).filterMap (x.cps[·]?)).toArray⟩) = _
  rw [indices_hi h]; rfl
theorem sl_ss {x : Str} {i j : Int} {a b : Nat} (hi : i = (a : Nat)) (hj : j = (b : Nat)) (hab : a ≤ b) (ha : a ≤ x.cps.size) : Txt.slice x (some i) (some j) = ⟨((x.cps.toList.drop a).take (b - a)).toArray⟩ := by
  subst hi hj
  have hl : x.cps.toList.length = x.cps.size := by simp
  by_cases hb : b ≤ x.cps.size
  · have := beq_iff_eq.mp (slice_closes (x := x) (i := (a : Int)) (j := (b : Int)) ⟨by omega, by omega, by omega⟩)
    rw [this]
    rw [show ((b : Int) - (a : Int)).toNat = b - a from by omega, Int.toNat_natCast]
  · rw [sl_hi (by omega)]
    have := beq_iff_eq.mp (slice_closes (x := x) (i := (a : Int)) (j := (x.cps.size : Int)) ⟨by omega, by omega, by omega⟩)
    rw [this, Int.toNat_natCast]
    rw [show ((x.cps.size : Int) - (a : Int)).toNat = x.cps.size - a from by omega]
    rw [List.take_of_length_le (by simp), List.take_of_length_le (by simp; omega)]
theorem sl_one (x : Str) : Txt.slice x none (some 1) = ⟨(x.cps.toList.take 1).toArray⟩ := by
  have hl : x.cps.toList.length = x.cps.size := by simp
  by_cases h : 1 ≤ x.cps.size
  · have := beq_iff_eq.mp (slice_closes_to (x := x) (j := 1) ⟨by omega, by omega⟩)
    rw [this]; rfl
  · rw [sl_hi (by omega)]
    have := beq_iff_eq.mp (slice_closes_to (x := x) (j := (x.cps.size : Int)) ⟨by omega, by omega⟩)
    rw [this]
    have h0 : x.cps.toList = [] := List.length_eq_zero_iff.mp (by omega)
    rw [h0]; simp
theorem sl_tail (x : Str) : Txt.slice x (some 1) none = ⟨(x.cps.toList.drop 1).toArray⟩ := by
  have hl : x.cps.toList.length = x.cps.size := by simp
  by_cases h : 1 ≤ x.cps.size
  · have := beq_iff_eq.mp (slice_closes_from (x := x) (i := 1) ⟨by omega, by omega⟩)
    rw [this]
    rw [List.take_of_length_le (by simp)]; rfl
  · rw [slice_beyond (by show (x.cps.size : Int) ≤ 1; omega)]
    have h0 : x.cps.toList = [] := List.length_eq_zero_iff.mp (by omega)
    rw [h0]; rfl
theorem str_eq_iff {a b : Str} : (a == b) = true ↔ a.cps.toList = b.cps.toList := by
  rw [beq_iff_eq]
  constructor
  · rintro rfl; rfl
  · intro h
    obtain ⟨a⟩ := a; obtain ⟨b⟩ := b
    simp only at h
    exact congrArg _ (Array.toList_inj.mp h)
theorem head_is {l : List Nat} {c : Nat} {y : Str} (hy : y = ⟨#[c]⟩) : ((⟨(l.take 1).toArray⟩ : Str) == y) = decide (l.head? = some c) := by
  subst hy
  rw [Bool.eq_iff_iff, str_eq_iff, decide_eq_true_iff]
  cases l with
  | nil => simp
  | cons a l => simp
section
open LCg LCt
variable {prog : Program} {w : World} {A : Around} {h₀ : Heap} {L : Addr} {m : Str → Option Value} {env : Env} {ct elt : Expr} {x : Str} {scope : Scope} {cl : List (Str × Addr)} {s : Shared} {S : Led → Prop} {P : Nat → Value → Prop} {Fin : List Value → Led → Prop}
theorem restT_inv {n : Nat} {news : Led} (J : Nat → List Value → Led → Prop) (h0 : J 0 [] news)
    (turn : ∀ i v ys news I oI C oC D m₂ h tk (E' : Value → Shared → Prop), i < n → P i v → J i ys news → NsObj oC m₂ → m₂ x = some v → Fr h₀ L h m → News h₀ L h ((I, oI) :: (C, oC) :: (D, lst ys) :: news) → Off3 I C D news → ((@Ne Nat I C) ∧ (@Ne Nat I D) ∧ (@Ne Nat C D)) →
      wpAny (model prog w) A (isTrue ct (compEnvC scope cl C env) (eval ct (compEnvC scope cl C env))) (fun ok s' => if ok = true then
        wpAny (model prog w) A (eval elt (compEnvC scope cl C env)) (CompEnd h₀ L m { s with heap := h, toks := tk } I oI C oC D (lst ys) S (fun y news' => J (i + 1) (ys ++ [y]) news')) E' s'
        else CompEnd h₀ L m { s with heap := h, toks := tk } I oI C oC D (lst ys) S (fun _ news' => J (i + 1) ys news') Value.none s') E' { s with heap := h, toks := tk })
    (fin : ∀ ys news, J n ys news → Fin ys news) : CompRestT prog w A h₀ L m env ct elt x scope cl s S P Fin n 0 [] news := by
  have key : ∀ (j i : Nat) (ys : List Value) (news : Led), i + j = n → J i ys news → CompRestT prog w A h₀ L m env ct elt x scope cl s S P Fin j i ys news := by
    intro j
    induction j with
    | zero =>
      intro i ys news hi hy
      have e : i = n := by omega
      subst e
      exact CompRestT.zero (fin ys news hy)
    | succ j ih =>
      intro i ys news hi hy
      refine CompRestT.succ ?_
      intro v I oI C oC D m₂ h tk E' hv hC hx F N off ne
      refine wpAny_mono (turn i v ys news I oI C oC D m₂ h tk E' (by omega) hv hy hC hx F N off ne) (fun ok s₂ hq => ?_) fun _ _ e => e
      cases ok with
      | true =>
        rw [if_pos rfl] at hq ⊢
        refine wpAny_mono hq (fun y s₃ hq => ?_) fun _ _ e => e
        obtain ⟨h', tk', nw, e, F', N', off', hS, hJ⟩ := hq
        exact ⟨h', tk', nw, e, F', N', off', hS, ih (i + 1) _ _ (by omega) hJ⟩
      | false =>
        rw [if_neg Bool.false_ne_true] at hq ⊢
        obtain ⟨h', tk', nw, e, F', N', off', hS, hJ⟩ := hq
        exact ⟨h', tk', nw, e, F', N', off', hS, ih (i + 1) _ _ (by omega) hJ⟩
  exact key n 0 [] news (by omega) h0
theorem strsAre_get {vs : List Value} {al : List Nat} (h : StrsAre vs (al.map fun c => ⟨#[c]⟩)) : vs.length = al.length ∧ ∀ (i : Nat) (v : Value), vs[i]? = some v → ∃ c t, al[i]? = some c ∧ v = .str ⟨#[c]⟩ t := by
  induction al generalizing vs with
  | nil => cases h; exact ⟨rfl, fun i v hv => by simp at hv⟩
  | cons a al ih =>
    cases h with
    | cons x t h =>
      obtain ⟨h1, h2⟩ := ih h
      refine ⟨by simp [h1], fun i v hv => ?_⟩
      cases i with
      | zero => simp at hv; exact ⟨a, t, rfl, hv.symm⟩
      | succ i => obtain ⟨c, t, e1, e2⟩ := h2 i v (by simpa using hv); exact ⟨c, t, by simpa using e1, e2⟩
/-- [one for one in al if f(one)] -/
theorem rest_filter {its : List Value} {al : List Nat} {news : Led} (f : Nat → Bool) (hits : StrsAre its (al.map fun c => ⟨#[c]⟩))
    (turn : ∀ c t ys I oI C oC D m₂ h tk (E' : Value → Shared → Prop), c ∈ al → NsObj oC m₂ → m₂ x = some (.str ⟨#[c]⟩ t) → Fr h₀ L h m → News h₀ L h ((I, oI) :: (C, oC) :: (D, lst ys) :: news) → Off3 I C D news → ((@Ne Nat I C) ∧ (@Ne Nat I D) ∧ (@Ne Nat C D)) →
      wpAny (model prog w) A (isTrue ct (compEnvC scope cl C env) (eval ct (compEnvC scope cl C env))) (fun ok s' => if ok = true then
        wpAny (model prog w) A (eval elt (compEnvC scope cl C env)) (CompEnd h₀ L m { s with heap := h, toks := tk } I oI C oC D (lst ys) S (fun y news' => y = .str ⟨#[c]⟩ t ∧ f c = true ∧ news' = news)) E' s'
        else CompEnd h₀ L m { s with heap := h, toks := tk } I oI C oC D (lst ys) S (fun _ news' => f c = false ∧ news' = news) Value.none s') E' { s with heap := h, toks := tk })
    (fin : ∀ ys, StrsAre ys ((al.filter f).map fun c => ⟨#[c]⟩) → Fin ys news) : CompRestT prog w A h₀ L m env ct elt x scope cl s S (fun i v => its.toArray[i]? = some v) Fin its.toArray.size 0 [] news := by
  obtain ⟨hlen, hget⟩ := strsAre_get hits
  refine restT_inv (fun i ys news' => StrsAre ys (((al.take i).filter f).map fun c => ⟨#[c]⟩) ∧ news' = news) ⟨by simpa using StrsAre.nil, rfl⟩ ?_ ?_
  · rintro i v ys _ I oI C oC D m₂ h tk E' hi hv ⟨hys, rfl⟩ hC hx F N off ne
    obtain ⟨c, t, hc, rfl⟩ := hget i v (by simpa using hv)
    have htk : al.take (i + 1) = al.take i ++ [c] := by rw [List.take_add_one, hc]; rfl
    refine wpAny_mono (turn c t ys I oI C oC D m₂ h tk E' (List.mem_of_getElem? hc) hC hx F N off ne) (fun ok s₂ hq => ?_) fun _ _ e => e
    cases ok with
    | true =>
      rw [if_pos rfl] at hq ⊢
      refine wpAny_mono hq (fun y s₃ hq => ?_) fun _ _ e => e
      obtain ⟨h', tk', nw, e, F', N', off', hS, rfl, hf, hn⟩ := hq
      exact ⟨h', tk', nw, e, F', N', off', hS, by rw [htk, List.filter_append, List.map_append]; simpa [hf] using strsAre_snoc hys, hn⟩
    | false =>
      rw [if_neg Bool.false_ne_true] at hq ⊢
      obtain ⟨h', tk', nw, e, F', N', off', hS, hf, hn⟩ := hq
      exact ⟨h', tk', nw, e, F', N', off', hS, by rw [htk, List.filter_append, List.map_append]; simpa [hf] using hys, hn⟩
  · rintro ys _ ⟨hys, rfl⟩
    have e : al.take its.toArray.size = al := List.take_of_length_le (by simp [hlen])
    rw [e] at hys
    exact fin ys hys
end
theorem alpha_are {vs : List Value} {ss : List Str} (h : StrsAre vs ss) (e : ss = alpha.map fun c => ⟨#[c]⟩) : StrsAre vs (alpha.map fun c => ⟨#[c]⟩) := by rw [← e]; exact h
theorem inRanges_snoc {rs : List (Nat × Nat)} {a b d : Nat} : inRanges (rs ++ [(a, b)]) d = (inRanges rs d || (decide (a ≤ d) && decide (d ≤ b))) := by
  unfold inRanges; rw [List.any_append]; simp
def LotInv (L ea : Addr) (ev : List Value) (k0 : Nat) (rs : Str) (tr : Tok) (neg : Bool) (rl : List Nat) (at_ : Nat) (m : Str → Option Value) (news : Led) : Prop :=
  ∃ (sa : Addr) (sv : List Value) (k : Nat) (sg : List Nat) (done : List (Nat × Nat)) (o1 o2 o3 o4 : Obj) (ta : Tok),
    news = [(sa, listOf sv.toArray k), (ea, listOf ev.toArray k0), (L + 1 + 1 + 1 + 1, o1), (L + 1 + 1 + 1, o2), (L + 1 + 1, o3), (L + 1, o4)] ∧ @LT.lt Nat _ ea sa ∧
    o1.data = .cell (some (.int (at_ : Nat) ta)) ∧ o2.data = .cell (some (.ref sa)) ∧ o3.data = .cell (some (.str rs tr)) ∧ o4.data = .cell (some (.bool neg)) ∧ StrsAre sv (sg.map fun c => ⟨#[c]⟩) ∧
    (∀ d ∈ alpha, d ∈ sg ↔ inRanges done d = true) ∧ lotRs rl = done ++ loopL (rl.drop at_) ∧ at_ ≤ rl.length ∧ sv.length ≤ 15 * at_ ∧ Has m [(Str.ofString "every", .ref ea)]
theorem lotRs_yes {rl : List Nat} (h : rl.head? = some 93) : lotRs rl = [(93, 93)] ++ loopL (rl.drop 1) := by
  unfold lotRs; rw [if_pos h, List.drop_one]; rfl
theorem lotRs_no {rl : List Nat} (h : ¬ rl.head? = some 93) : lotRs rl = [] ++ loopL (rl.drop 0) := by
  unfold lotRs; rw [if_neg h]; rfl
theorem inRanges_one {a d : Nat} : inRanges [(a, a)] d = true ↔ d = a := by
  unfold inRanges; simp; omega
theorem News.drop13 {G h : Heap} {L : Addr} {x a b : Addr × Obj} {tl : Led} (N : News G L h (x :: a :: b :: tl)) : News G L h (a :: tl) := fun p hp => by
  rcases List.mem_cons.mp hp with rfl | hp
  · exact N _ (.tail _ (.head _))
  · exact N p (.tail _ (.tail _ (.tail _ hp)))
theorem strs_one {x : Str} {t : Tok} {c : Nat} (h : x = ⟨#[c]⟩) : StrsAre [.str x t] ([c].map fun c => ⟨#[c]⟩) := by subst h; exact .cons _ _ .nil
theorem any_mem {sg : List Nat} {c : Nat} : ((sg.map fun c => (⟨#[c]⟩ : Str)).any fun x => x == ⟨#[c]⟩) = decide (c ∈ sg) := by
  rw [List.any_map, Bool.eq_iff_iff, List.any_eq_true, decide_eq_true_iff]
  constructor
  · rintro ⟨d, hd, he⟩
    have he2 : ((⟨#[d]⟩ : Str) == ⟨#[c]⟩) = true := he
    have e3 : d = c := by
      have := eq_of_beq he2
      injection this with this
      simpa using this
    rw [← e3]; exact hd
  · intro hc
    exact ⟨c, hc, by show ((⟨#[c]⟩ : Str) == ⟨#[c]⟩) = true; simp⟩
theorem lot_sg1 {sg : List Nat} {done : List (Nat × Nat)} {c : Nat} (h : ∀ d ∈ alpha, d ∈ sg ↔ inRanges done d = true) : ∀ d ∈ alpha, d ∈ sg ++ [c] ↔ inRanges (done ++ [(c, c)]) d = true := fun d hd => by
  rw [List.mem_append, inRanges_snoc, Bool.or_eq_true, h d hd, List.mem_singleton]
  exact or_congr_right (by simp; omega)
theorem lot_sgR {sg : List Nat} {done : List (Nat × Nat)} {c e : Nat} (h : ∀ d ∈ alpha, d ∈ sg ↔ inRanges done d = true) : ∀ d ∈ alpha, d ∈ sg ++ alpha.filter (fun d => decide (c ≤ d) && decide (d ≤ e)) ↔ inRanges (done ++ [(c, e)]) d = true := fun d hd => by
  rw [List.mem_append, inRanges_snoc, Bool.or_eq_true, h d hd, List.mem_filter]
  exact or_congr_right ⟨fun x => x.2, fun x => ⟨hd, x⟩⟩
theorem lot_doneR {rl : List Nat} {done : List (Nat × Nat)} {i c e : Nat} (h : lotRs rl = done ++ loopL (rl.drop i)) (hc : rl[i]? = some c) (hd : rl[i + 1]? = some 45) (he : rl[i + 2]? = some e) : lotRs rl = (done ++ [(c, e)]) ++ loopL (rl.drop (i + 3)) := by
  rw [drop_cons hc, drop_cons hd, drop_cons he, loopL_range] at h
  rw [h]; simp
theorem lot_done1 {rl : List Nat} {done : List (Nat × Nat)} {i c : Nat} (h : lotRs rl = done ++ loopL (rl.drop i)) (hc : rl[i]? = some c) (hn : i + 2 < rl.length → rl[i + 1]? ≠ some 45) : lotRs rl = (done ++ [(c, c)]) ++ loopL (rl.drop (i + 1)) := by
  rw [drop_cons hc, loopL_one] at h
  · rw [h]; simp
  · intro e r' hq
    have hl := congrArg List.length hq
    simp at hl
    refine hn (by omega) ?_
    have := congrArg (fun l => l[0]?) hq
    simpa using this
theorem lot_fin {sg : List Nat} {rs : List (Nat × Nat)} {neg : Bool} (h : ∀ d ∈ alpha, d ∈ sg ↔ inRanges rs d = true) : alpha.filter (fun d => (decide (d ∈ sg)) != neg) = alpha.filter (fun d => inRanges rs d != neg) :=
  List.filter_congr fun d hd => by
    have e : decide (d ∈ sg) = inRanges rs d := by rw [Bool.eq_iff_iff, decide_eq_true_iff]; exact h d hd
    rw [e]
theorem filt_len (f : Nat → Bool) : (alpha.filter f).length ≤ 15 := List.length_filter_le f alpha
section
variable {prog : Program} {w : World} {A : Around} {s : Shared} {env : Env} {G : Heap} {body : List Stmt} {Q : Flow → Shared → Prop} {test : Expr} {pos : Pos} {m₀ : Str → Option Value} {news₀ : List (Addr × Obj)}
/-- as while_inv, the turn's end named -/
theorem while_named {L : Addr} (Inv : Nat → (Str → Option Value) → List (Addr × Obj) → Prop) (n₀ : Nat) (F : Fr G L s.heap m₀) (N : News G L s.heap news₀) (h0 : Inv n₀ m₀ news₀)
    (turn : ∀ n m news h tk, Inv n m news → Fr G L h m → News G L h news → ∀ R : Flow → Shared → Prop, R = WEnd G L Inv n s Q →
      wpAny (model prog w) A (isTrue test env (eval test env)) (fun b s₂ => if b then wpAny (model prog w) A (execs body env) R (fun _ _ => False) s₂ else Q .next s₂) (fun _ _ => False) { s with heap := h, toks := tk }) :
    wpAny (model prog w) A (exec (.While test body [] pos) env) Q (fun _ _ => False) s :=
  while_inv Inv n₀ F N h0 fun n m news h tk i F N => turn n m news h tk i F N _ rfl
end
theorem add_lt {prog : Program} {w : World} {A : Around} {E : Value → Shared → Prop} {s : Shared} {G : Heap} {L : Addr} {m : Str → Option Value} {news : Led} {l b : Addr} {vs ws : List Value} {k j : Nat} {Q : Value → Shared → Prop} (F : Fr G L s.heap m) (N : News G L s.heap news) (hl : (l, listOf vs.toArray k) ∈ news) (hb : (b, listOf ws.toArray j) ∈ news) (hsz : vs.length + ws.length ≤ 100000)
    (h : ∀ D h', AllLt D news → Fr G L h' m → News G L h' ((D, listOf (vs ++ ws).toArray 0) :: news) → Q (.ref D) { s with heap := h' }) :
    wpAny (model prog w) A (binaryOp .Add (.ref l) (.ref b)) Q E s :=
  add_led F N hl hb hsz fun D h' e F' N' => h D h' (allLt_of fun p hp => by rw [e]; exact Heap.lt_size (N p hp).1) F' N'
theorem News.drop13b {G h : Heap} {L : Addr} {x a b : Addr × Obj} {tl : Led} (N : News G L h (x :: a :: b :: tl)) : News G L h (x :: tl) := fun p hp => by
  rcases List.mem_cons.mp hp with rfl | hp
  · exact N _ (.head _)
  · exact N p (.tail _ (.tail _ (.tail _ hp)))
end
section
section
local macro_rules | `(tactic| walk_at "exec If") => `(tactic| (k_here; (with_reducible show wpAny _ _ (exec (Stmt.If (Expr.BoolOp _ _ _) _ _ _) _) _ _ _); refine halt_intro ?_))
local macro_rules | `(tactic| walk_at "exec Assign") => `(tactic| (k_here; (with_reducible show wpAny _ _ (exec (Stmt.Assign [Expr.Tuple _ _ _] (Expr.Tuple [Expr.Compare _ _ _ _, _] _ _) _) _) _ _ _); refine halt_intro ?_))
local macro_rules | `(tactic| walk_at "exec If") => `(tactic| (k_here; (with_reducible show wpAny _ _ (exec (Stmt.If (Expr.Compare _ _ _ _) _ _ _) _) _ _ _); refine halt_intro ?_))
local macro_rules | `(tactic| walk_at "assign Tuple") => `(tactic| (k_here; (with_reducible show wpAny _ _ (assign (Expr.Tuple _ _ _) _ (Value.ref _)) _ _ _); k_dflt (refine' unpackN_ ?k1 ?k2 ?k3 ?k4 ?k5 ?k6 ?_; (case k1 => k_asm); (case k2 => k_asm); (case k3 => kun_tup); (case k4 => (obtain ⟨okh9, _⟩ := ‹Ok _ _›; exact okh9)); (case k5 => exact rfl); (case k6 => exact rfl); k_whole); intro h' F' N'; (try k_sweep)))
local macro_rules | `(tactic| walk_at "binaryOp Add ref ref") => `(tactic| (k_here; (with_reducible show wpAny _ _ (binaryOp Operator.Add (Value.ref _) (Value.ref _)) _ _ _); (rename Fr _ _ _ _ => F9); (rename News _ _ _ _ => N9); k_dflt (refine' add_lt F9 N9 ?hm ?hb ?hT ?_; (case hm => k_mem); (case hb => k_mem); (case hT => omega)); clear F9 N9; intro D' h' l1 F' N'; simp only [AllLt, and_true] at l1))
theorem lot_spec {w : World} {A : Around} {s : Shared} {x : Str} {t : Tok} (am : Amb w s.heap) (ok : Ok 1 A) (hT : x.cps.size ≤ 1000) {Q : Value → Shared → Prop} {E : Value → Shared → Prop}
  (ret : ∀ h' tk r vs n, Sub s.heap h' → NewLed s.heap h' [(r, listOf vs.toArray n)] → StrsAre vs ((alpha.filter fun d => inRanges (lotRs (lotRest x.cps.toList)) d != lotNeg x.cps.toList).map fun c => ⟨#[c]⟩) → Q (.ref r) { s with heap := h', toks := tk }) :
    wpAny (model PySem.Challenge.rw_nt0095_01.row.prog w) A (call (.ref 184) [.str x t] []) Q E s := by
  refine wpAny_noRaise ?_
  refine' enterSC (G := s.heap) (news := []) (binds := [(Str.ofString "inner", .str x t)]) am ?k1b ?hz ?kN ?k2 ?k3 ?k4 ?k5 ?k6 ?k7 ?_ ?c1 ?c2 ?c3
  case k1b => exact Sub.refl _
  case hz => exact Nat.le_refl _
  case kN => exact fun _ hp => nomatch hp
  (case k2 => k_room); (case k3 => k_is); (case k4 => k_is); (case k5 => first | exact BindsTo.of_eq rfl | exact binds_K (by k_in) rfl (by k_is) rfl rfl rfl); (case k6 => exact rfl);
  (case k7 => decide); (case c1 => exact rfl); (case c2 => exact rfl); (case c3 => exact rfl)
  intro L h₁ tk cells hL F N Y
  k_cells Y
  rename_i o1 o2 o3 o4 d1 d2 d3 d4
  replace d1 : o1.data = .cell none := d1
  replace d2 : o2.data = .cell none := d2
  replace d3 : o3.data = .cell none := d3
  replace d4 : o4.data = .cell none := d4
  simp only [List.append_nil] at N
  have X := am.X
  obtain ⟨p, l, mg, mb, T⟩ := am.T
  (try k_fold)
  k_steps
  refine halt_intro' ?_
  rename_i ea _ l1 _ F1 N1 _ _
  refine join_at (G := s.heap) (L := L) (fun m news => ∃ ev k o1 o2 o3 o4 tr, news = [(ea, listOf ev.toArray k), (L + 1 + 1 + 1 + 1, o1), (L + 1 + 1 + 1, o2), (L + 1 + 1, o3), (L + 1, o4)] ∧ StrsAre ev (alpha.map fun c => ⟨#[c]⟩) ∧
      o1.data = .cell none ∧ o2.data = .cell none ∧ o3.data = .cell (some (.str ⟨(lotRest x.cps.toList).toArray⟩ tr)) ∧ o4.data = .cell (some (.bool (lotNeg x.cps.toList))) ∧ Has m [(Str.ofString "every", .ref ea)]) ?_ ?_
  · refine Assign_Tuple ?_
    (try k_fold)
    k_steps
    · rename_i hb _ _ _ _ _ _ _ _ _ _ d5 _ _ F' N' d6
      have hd : x.cps.toList.head? = some 94 := by
        rw [sl_one, head_is lit_hat] at hb
        exact of_decide_eq_true hb
      exact ⟨rfl, _, _, _, _, rfl, F', News.drop N', _, _, _, _, _, _, _, rfl, alpha_are (.cons _ _ (.cons _ _ (.cons _ _ (.cons _ _ (.cons _ _ (.cons _ _ (.cons _ _ (.cons _ _ (.cons _ _ (.cons _ _ (.cons _ _ (.cons _ _ (.cons _ _ (.cons _ _ (.cons _ _ .nil))))))))))))))) (by decide +kernel), d1, d2, d6.trans (congrArg (fun r => Data.cell (some (Value.str r _))) (by rw [sl_tail]; simp [lotRest, hd])), by rw [d5, sl_one, head_is lit_hat]; rfl, ⟨rfl, trivial⟩⟩
    · rename_i hb _ _ _ _ _ _ d5 _ _ F' N' d6
      have hd : ¬ x.cps.toList.head? = some 94 := by
        rw [sl_one, head_is lit_hat] at hb
        exact of_decide_eq_false hb
      exact ⟨rfl, _, _, _, _, rfl, F', News.drop N', _, _, _, _, _, _, _, rfl, alpha_are (.cons _ _ (.cons _ _ (.cons _ _ (.cons _ _ (.cons _ _ (.cons _ _ (.cons _ _ (.cons _ _ (.cons _ _ (.cons _ _ (.cons _ _ (.cons _ _ (.cons _ _ (.cons _ _ (.cons _ _ .nil))))))))))))))) (by decide +kernel), d1, d2, d6.trans (congrArg (fun r => Data.cell (some (Value.str r _))) (by simp [lotRest, hd])), by rw [d5, sl_one, head_is lit_hat]; rfl, ⟨rfl, trivial⟩⟩
  clear F1 N1 d1 d2 d3 d4
  rintro m news h tk ⟨ev, k0, o1, o2, o3, o4, tr, rfl, hev, d1, d2, d3, d4, hm⟩ F3 N3
  have F4 := frMany hm F3
  clear F3
  obtain ⟨rl, hrl⟩ : ∃ rl, lotRest x.cps.toList = rl := ⟨_, rfl⟩
  obtain ⟨neg, hneg⟩ : ∃ neg, lotNeg x.cps.toList = neg := ⟨_, rfl⟩
  have hrlen : rl.length ≤ 1000 := by
    rw [← hrl]; unfold lotRest
    have hl : x.cps.toList.length = x.cps.size := by simp
    split <;> simp <;> omega
  rw [hrl] at d3 ret
  rw [hneg] at d4 ret
  obtain ⟨rs, hrs⟩ : ∃ r : Str, (⟨rl.toArray⟩ : Str) = r := ⟨_, rfl⟩
  have hrsl : rs.cps.toList = rl := by rw [← hrs]
  have hrss : rs.cps.size = rl.length := by rw [← hrs]; simp
  rw [hrs] at d3
  clear hrs
  (try k_fold)
  k_steps
  refine halt_intro' ?_
  refine join_at (G := s.heap) (L := L) (fun m news => ∃ at_, LotInv L ea ev k0 rs tr neg rl at_ m news) ?_ ?_
  · rename_i sa _ l2 _ _ _ _ _ _ d5 _ _ F5 N5 d6
    replace N5 := News.drop N5
    refine wpAny_If ?_
    (try k_fold)
    k_steps
    · rename_i hb _ _ _ sa2 _ l3 _ _ _ _ _ _ d7 _ _ F' N' d8
      have hd : rl.head? = some 93 := by
        rw [sl_one, hrsl, head_is lit_rb] at hb
        exact of_decide_eq_true hb
      have hr1 : 1 ≤ rl.length := by
        cases rl with
        | nil => cases hd
        | cons a b => simp
      exact ⟨rfl, _, _, _, _, rfl, F', News.drop13 N', 1, sa2, _, _, [93], [(93, 93)], _, _, _, _, _, rfl, l3.2.1, d8, d7, d3, d4, strs_one lit_rb, fun d _ => by rw [inRanges_one, List.mem_singleton], lotRs_yes hd, hr1, by simp, ⟨rfl, trivial⟩⟩
    · rename_i F' N' _ hb
      have hd : ¬ rl.head? = some 93 := by
        rw [sl_one, hrsl, head_is lit_rb] at hb
        exact of_decide_eq_false hb
      exact ⟨rfl, _, _, _, _, rfl, F', N', 0, sa, _, _, [], [], _, _, _, _, _, rfl, l2.1, d6, d5, d3, d4, .nil, fun d _ => by simp [inRanges], lotRs_no hd, Nat.zero_le _, by simp, ⟨rfl, trivial⟩⟩
  clear hm d1 d2 d4
  (rename Fr _ _ _ _ => Fz); (rename News _ _ _ _ => Nz)
  clear Fz Nz
  rintro m news h tk ⟨at0, hinv⟩ F3 N3
  (try k_fold)
  k_steps
  refine halt_intro' ?_
  refine while_named (fun nn m news => ∃ at_, nn = rl.length - at_ ∧ LotInv L ea ev k0 rs tr neg rl at_ m news) _ F3 N3 ⟨at0, rfl, hinv⟩ ?_
  clear hinv F3 N3
  rintro nn m news h tk ⟨at_, rfl, sa, sv, k, sg, done, o1, o2, o3, o4, ta, rfl, hsa, d1, d2, d3, d4, hsv, hsg, hdone, hle, hsl, hm⟩ F3 N3 R hR
  have F4 := frMany hm F3
  clear F3
  by_cases hlt : at_ < rl.length
  · obtain ⟨c, hc⟩ : ∃ c, rs.cps[at_]? = some c := ⟨rs.cps[at_]'(by omega), by simp⟩
    have hcl : rl[at_]? = some c := by rw [← hrsl, Array.getElem?_toList]; exact hc
    by_cases hRg : at_ + 2 < rl.length ∧ rs.cps[at_ + 1]? = some 45
    · obtain ⟨h2, hd⟩ := hRg
      have hdl : rl[at_ + 1]? = some 45 := by rw [← hrsl, Array.getElem?_toList]; exact hd
      obtain ⟨e, he⟩ : ∃ e, rs.cps[at_ + 2]? = some e := ⟨rs.cps[at_ + 2]'(by omega), by simp⟩
      have hel : rl[at_ + 2]? = some e := by rw [← hrsl, Array.getElem?_toList]; exact he
      have hdn : Nxt rs (at_ + 1) 45 := hd
      have hen : Nxt2 rs (at_ + 2) e := he
      clear hd he
      (try k_fold)
      k_steps
      refine halt_intro' (wpAny_If ?_)
      (try k_fold)
      k_steps
      refine halt_intro' ?_
      refine LCt.ListComp_T (F₀ := F4) (by with_unfolding_all rfl) (by decide) (by rfl) (by decide) (by rfl) ?_
      (try k_fold)
      k_steps
      refine LCt.CompSrcT.ledger (its := ev.toArray) ok.1 F4 N3 (by k_mem) (by rw [sizeLine_eq, List.size_toArray, (strsAre_get hev).1]; decide) ?_
      intro g
      refine rest_filter (fun d => decide (c ≤ d) && decide (d ≤ e)) hev ?_ ?_
      · intro c2 t2 ys I oI C oC D m₂ h3 tk3 E' hc2 hC hx F5 N5 off ne

        clear F4 N3
        (try k_fold)
        k_steps
        all_goals (have off9 := off; simp only [LCg.Off3, and_true] at off9; obtain ⟨⟨o1, o2, o3⟩, ⟨o4, o5, o6⟩, ⟨o7, o8, o9⟩, ⟨p1, p2, p3⟩, ⟨p4, p5, p6⟩, p7, p8, p9⟩ := off9; k_steps; all_goals clear o1 o2 o3 o4 o5 o6 o7 o8 o9 p1 p2 p3 p4 p5 p6 p7 p8 p9)
        all_goals (simp only [Bool.and_eq_true, Bool.and_eq_false_iff, decide_eq_true_eq, decide_eq_false_iff_not]; omega)
      · intro ys hys
        intro D h3 tk3 F5 N5 o3
        simp only [LCg.Off1, and_true] at o3
        clear F4 N3
        have hyl : ys.length ≤ 15 := by
          rw [(strsAre_get hys).1]; exact filt_len _
        (try k_fold)
        k_steps
        rename_i D2 _ l4 _ _ d2' _ _ F' N' d1'
        subst hR
        exact ⟨_, _, _, _, _, (by omega : rl.length - (at_ + 3) < rl.length - at_), rfl, F', News.drop13b N', at_ + 3, rfl, D2, _, _, sg ++ alpha.filter (fun d => decide (c ≤ d) && decide (d ≤ e)), done ++ [(c, e)], _, _, _, _, _, rfl, l4.2.2.1, d1', d2', d3, d4, by rw [List.map_append]; exact StrsAre.append' hsv hys, lot_sgR hsg, lot_doneR hdone hcl hdl hel, by omega, by simp only [List.length_append]; omega, ⟨rfl, trivial⟩⟩
    · (try k_fold)
      k_steps
      refine halt_intro' (wpAny_If (join_test false ?_ fun tk => ?_))
      · by_cases h2 : at_ + 2 < rl.length
        · obtain ⟨d, hd⟩ : ∃ d, rs.cps[at_ + 1]? = some d := ⟨rs.cps[at_ + 1]'(by omega), by simp⟩
          have hd45 : ¬ d = 45 := fun q => hRg ⟨h2, by rw [hd, q]⟩
          have hdn : Nxt rs (at_ + 1) d := hd
          clear hd hRg
          (try k_fold)
          k_steps
          exact ⟨by simp [hd45], _, rfl⟩
        · (try k_fold)
          k_steps
          exact ⟨by simp, _, rfl⟩
      simp only [Bool.false_eq_true, if_false]
      k_steps
      (rename Fr _ _ _ _ => F'); (rename News _ _ _ _ => N'); (rename Obj.data _ = Data.cell (some (Value.int _ _)) => d1')
      rw [List.push_toArray] at N'
      subst hR
      exact ⟨_, _, _, _, _, (by omega : rl.length - (at_ + 1) < rl.length - at_), rfl, F', N', at_ + 1, rfl, sa, _, _, sg ++ [c], done ++ [(c, c)], _, _, _, _, _, rfl, hsa, d1', d2, d3, d4, by rw [List.map_append]; exact strsAre_snoc hsv, lot_sg1 hsg, lot_done1 hdone hcl (fun q q2 => hRg ⟨q, by rw [← hrsl, Array.getElem?_toList] at q2; exact q2⟩), by omega, by simp; omega, ⟨rfl, trivial⟩⟩
  · have hnil : rl.drop at_ = [] := List.drop_eq_nil_of_le (by omega)
    rw [hnil] at hdone
    have hdone2 : lotRs rl = done := by rw [hdone]; simp [loopL]
    (try k_fold)
    k_steps
    refine halt_intro' ?_
    refine LCt.ListComp_T (F₀ := F4) (by with_unfolding_all rfl) (by decide) (by rfl) (by decide) (by rfl) ?_
    (try k_fold)
    k_steps
    refine LCt.CompSrcT.ledger (its := ev.toArray) ok.1 F4 N3 (by k_mem) (by rw [sizeLine_eq, List.size_toArray, (strsAre_get hev).1]; decide) ?_
    intro g
    refine rest_filter (fun d => (decide (d ∈ sg)) != neg) hev ?_ ?_
    · intro c t ys I oI C oC D m₂ h3 tk3 E' hc hC hx F5 N5 off ne

      clear F4 N3
      (try k_fold)
      k_steps
      all_goals (have off9 := off; simp only [LCg.Off3, and_true] at off9; obtain ⟨⟨o1, o2, o3⟩, ⟨o4, o5, o6⟩, ⟨o7, o8, o9⟩, ⟨p1, p2, p3⟩, ⟨p4, p5, p6⟩, p7, p8, p9⟩ := off9; k_steps; all_goals clear o1 o2 o3 o4 o5 o6 o7 o8 o9 p1 p2 p3 p4 p5 p6 p7 p8 p9)
      · (rename (_ != _) = true => hq)
        rw [any_mem] at hq; exact hq
      · (rename (_ != _) = false => hq)
        rw [any_mem] at hq; exact hq
    · intro ys hys
      intro D h3 tk3 F5 N5 o3
      simp only [LCg.Off1, and_true] at o3
      clear F4 N3
      (try k_fold)
      k_steps
      refine ret _ _ D ys _ F5.keep (fun p hp => ⟨(N5 p (by rw [List.mem_singleton.mp hp]; exact .head _)).1, (N5 p (by rw [List.mem_singleton.mp hp]; exact .head _)).2.2⟩) ?_
      rw [hdone2, ← lot_fin hsg]; exact hys
end
end
section
theorem take_drop_split {α : Type} {l : List α} {i j : Nat} {c : α} (hij : i ≤ j) (hj : l[j]? = some c) : l.drop i = (l.drop i).take (j - i) ++ c :: l.drop (j + 1) := by
  have h1 : (l.drop i).drop (j - i) = c :: l.drop (j + 1) := by
    rw [List.drop_drop, show i + (j - i) = j from by omega, drop_cons hj]
  rw [← h1, List.take_append_drop]
theorem lot_plain_none {p : List Nat} {a : Nat} (hat : Prop) [Decidable hat] (hh : hat ↔ p[a]? = some 94) (h : 93 ∉ p.drop ((if hat then a + 1 else a) + 1)) : lotAt (p.drop a) = none := by
  by_cases hb : hat
  · rw [if_pos hb] at h
    rw [lotAt_hat (hh.mp hb), lotAt2_none]
    rw [List.tail_drop]; exact h
  · rw [if_neg hb] at h
    rw [lotAt_no (fun q => hb (hh.mpr q)), lotAt2_none]
    rw [List.tail_drop]; exact h
theorem lot_plain_some {p : List Nat} {a j : Nat} (hat : Prop) [Decidable hat] (hh : hat ↔ p[a]? = some 94) (hlt : (if hat then a + 1 else a) < j) (hj : p[j]? = some 93) (h : 93 ∉ (p.drop ((if hat then a + 1 else a) + 1)).take (j - ((if hat then a + 1 else a) + 1))) :
    lotAt (p.drop a) = some (lotRs (lotRest ((p.drop a).take (j - a))), lotNeg ((p.drop a).take (j - a)), p.drop (j + 1)) := by
  have hjl := (List.getElem?_eq_some_iff.mp hj).1
  have tl : ∀ f, f < j → ((p.drop f).take (j - f)) ≠ [] ∧ ((p.drop f).take (j - f)).tail = (p.drop (f + 1)).take (j - (f + 1)) ∧ ((p.drop f).take (j - f)).head? = p[f]? := by
    intro f hf
    obtain ⟨c, hc⟩ : ∃ c, p[f]? = some c := ⟨p[f]'(by omega), by simp⟩
    rw [drop_cons hc, show j - f = (j - (f + 1)) + 1 from by omega, List.take_succ_cons]
    exact ⟨by simp, rfl, by rw [hc]; rfl⟩
  by_cases hb : hat
  · rw [if_pos hb] at h hlt
    obtain ⟨t1, t2, t3⟩ := tl (a + 1) hlt
    obtain ⟨u1, u2, u3⟩ := tl a (by omega)
    rw [lotAt_hat (hh.mp hb), take_drop_split (Nat.le_of_lt hlt) hj, lotAt2_some t1 (by rw [t2]; exact h)]
    have e1 : lotRest ((p.drop a).take (j - a)) = (p.drop (a + 1)).take (j - (a + 1)) := by
      unfold lotRest; rw [u3, if_pos (hh.mp hb), u2]
    have e2 : lotNeg ((p.drop a).take (j - a)) = true := by
      unfold lotNeg; rw [u3]; exact decide_eq_true (hh.mp hb)
    rw [e1, e2]
  · rw [if_neg hb] at h hlt
    obtain ⟨t1, t2, t3⟩ := tl a hlt
    rw [lotAt_no (fun q => hb (hh.mpr q)), take_drop_split (Nat.le_of_lt hlt) hj, lotAt2_some t1 (by rw [t2]; exact h), ← take_drop_split (Nat.le_of_lt hlt) hj]
    have e1 : lotRest ((p.drop a).take (j - a)) = (p.drop a).take (j - a) := by
      unfold lotRest; rw [t3, if_neg (fun q => hb (hh.mpr q))]
    have e2 : lotNeg ((p.drop a).take (j - a)) = false := by
      unfold lotNeg; rw [t3]; exact decide_eq_false (fun q => hb (hh.mpr q))
    rw [e1, e2]
theorem getD_iff {x : Str} {v c : Nat} (hv : v < x.cps.size) : x.cps.getD v 0 = c ↔ x.cps.toList[v]? = some c := by
  rw [Array.getElem?_toList, Array.getElem?_eq_getElem hv, Option.some_inj]
  simp [Array.getD, hv]
open PySem.Builtin PySem.Builtin.Str in
theorem find_from {prog : Program} {w : World} {A : Around} {E : Value → Shared → Prop} {s : Shared} {x y : Str} {t u v : Tok} {i : Int} {k c : Nat} {Q : Value → Shared → Prop} (hy : y = ⟨#[c]⟩) (hi : i = (k : Nat))
    (h1 : c ∉ x.cps.toList.drop k → ∀ tk t', Q (.int (-1) t') { s with toks := tk })
    (h2 : ∀ j : Nat, k ≤ j → x.cps.toList[j]? = some c → c ∉ (x.cps.toList.drop k).take (j - k) → ∀ tk t', Q (.int (j : Int) t') { s with toks := tk }) :
    wpAny (model prog w) A (call (.builtin "str.find") [.str x t, .str y u, .int i v]) Q E s := by
  subst hy hi
  have hl : x.cps.toList.length = x.cps.size := by simp
  have hf : fromIndex x.length (k : Int) = k := by
    show (max 0 (if (k : Int) < 0 then (k : Int) + (x.length : Nat) else (k : Int))).toNat = k
    rw [if_neg (by omega)]; omega
  refine SC.find3 ?_
  rcases StrLaws.find3_spec x c (k : Int) with ⟨h, hn⟩ | ⟨j, h, hk, hj, hc, hn⟩
  · rw [h]
    refine h1 (fun hm => ?_) _ _
    obtain ⟨v, hv⟩ := List.mem_iff_getElem?.mp hm
    rw [List.getElem?_drop] at hv
    have hlt := (List.getElem?_eq_some_iff.mp hv).1
    exact hn (k + v) (by rw [hf]; omega) (by show _ < x.cps.size; omega) ((getD_iff (by omega)).mpr hv)
  · rw [h]
    rw [hf] at hk hn
    have hj' : j < x.cps.size := hj
    refine h2 j hk ((getD_iff hj').mp hc) (fun hm => ?_) _ _
    obtain ⟨v, hv⟩ := List.mem_iff_getElem?.mp hm
    rw [List.getElem?_take] at hv
    split at hv
    · rw [List.getElem?_drop] at hv
      exact hn (k + v) (by omega) (by omega) ((getD_iff (by omega)).mpr hv)
    · cases hv
theorem lturn1n {G h : Heap} {L a T : Addr} {k : Nat} {vs : List Value} {tl : Led} {done : List PD} {pd : PD} {o : Obj} {v : Value} (N : News G L h ((T, o) :: (a, listOf (vs.toArray.push v) (k + 1)) :: tl))
    (l1 : @Ne Nat T a) (hoff : ∀ p ∈ tl, p.1 ≠ a) (hvs : All2 (LawAt tl) vs done) (hp : LawAt [(T, o)] v pd) :
    News G L h ((a, listOf (vs ++ [v]).toArray (k + 1)) :: (T, o) :: tl) ∧ (∀ p ∈ (T, o) :: tl, p.1 ≠ a) ∧ All2 (LawAt ((T, o) :: tl)) (vs ++ [v]) (done ++ [pd]) := by
  rw [List.push_toArray] at N
  refine ⟨?_, ?_, ?_⟩
  · intro p hp
    rcases List.mem_cons.mp hp with rfl | hp
    · exact N _ (.tail _ (.head _))
    · rcases List.mem_cons.mp hp with rfl | hp
      · exact N _ (.head _)
      · exact N _ (.tail _ (.tail _ hp))
  · intro p hp
    rcases List.mem_cons.mp hp with rfl | hp
    · exact l1
    · exact hoff p hp
  · refine All2.snoc (hvs.mono fun v p => LawAt.mono (lsub_cons (lsub_refl _))) (hp.mono ?_)
    intro p hp
    rw [List.mem_singleton.mp hp]; exact .head _
theorem lawAt_lot {r : Addr} {vs : List Value} {n : Nat} {rs : List (Nat × Nat)} {neg : Bool} (h : StrsAre vs ((alpha.filter fun d => inRanges rs d != neg).map fun c => ⟨#[c]⟩)) : LawAt [(r, listOf vs.toArray n)] (.ref r) (.lot rs neg) :=
  ⟨r, vs, n, _, rfl, .head _, h, Nat.le_trans (filt_len _) (by decide), fun d hd => by
    rw [List.mem_filter]
    exact ⟨fun x => x.2, fun x => ⟨hd, x⟩⟩⟩
end
section
section
local macro_rules | `(tactic| walk_at "call builtin:str.find") => `(tactic| (k_here; refine halt_intro ?_))
inductive LgInv (x : Str) (t : Tok) (a : Addr) (n : Nat) (m : Str → Option Value) (news : List (Addr × Obj)) : Prop
  | mk (at_ : Nat) (t2 : Tok) (vs : List Value) (k : Nat) (tl : Led) (done : List PD) (q1 : news = (a, listOf vs.toArray k) :: tl) (q2 : (∀ p ∈ tl, p.1 ≠ a)) (q3 : All2 (LawAt tl) vs done) (q4 : vs.length ≤ at_) (q5 : at_ ≤ x.cps.size) (q6 : (∀ o, GlobR (x.cps.toList.drop at_) o → GlobR x.cps.toList (o.map (done ++ ·)))) (q7 : Has m [(Str.ofString "pattern", .str x t), (Str.ofString "found", .ref a), (Str.ofString "at", .int (at_ : Nat) t2)]) (q8 : n = x.cps.size - at_) : LgInv x t a n m news
theorem lawGlob_spec {w : World} {A : Around} {s : Shared} {x : Str} {t : Tok} (am : Amb w s.heap) (ok : Ok 2 A) (hT : x.cps.size ≤ 1000) {Q : Value → Shared → Prop} {E : Value → Shared → Prop}
  (ret : ∀ h' tk v tl o, Sub s.heap h' → NewLed s.heap h' tl → GlobR x.cps.toList o → (∀ ps, o = some ps → ps.length ≤ x.cps.size) → LawRes tl v o → Q v { s with heap := h', toks := tk }) :
    wpAny (model PySem.Challenge.rw_nt0095_01.row.prog w) A (call (.ref 191) [.str x t] []) Q E s := by
  refine wpAny_noRaise ?_
  obtain ⟨h₀, g₀, d₀, t₀, o₀⟩ := s
  (try dsimp only at *)
  have X := am.X
  obtain ⟨p, l, mg, mb, T⟩ := am.T
  have hT2 : x.cps.toList.length = x.cps.size := by simp
  refine' enterP (binds := [(Str.ofString "pattern", .str x t)]) ?k1 ?k2 ?k3 ?k4 ?k5 ?k6 ?_ ?c1 ?c2 ?c3 ?c4
  walk_at "ENTERP"
  intro L h₁ hL F N
  (try dsimp only at *)
  (try k_fold)
  k_steps
  refine halt_intro' ?_
  rename_i a _ _ _ _ _ _ _ _ F2 N2
  replace N2 := News.drop N2
  refine while_named (LgInv x t a) _ F2 N2
    ⟨0, _, [], _, [], [], rfl, (fun _ hp => nomatch hp), .nil, Nat.le_refl _, Nat.zero_le _, fun o ho => by simpa using ho, ⟨rfl, rfl, rfl, trivial⟩, rfl⟩ ?_
  rintro n m news h tk ⟨at_, t2, vs, k, tl, done, rfl, hoff, hvs, hvl, hle, hres, hm, rfl⟩ F3 N3 R hR
  have F4 := frMany hm F3
  clear F3 F2 N2
  by_cases hat : at_ < x.cps.size
  · obtain ⟨c, hc⟩ : ∃ c, x.cps[at_]? = some c := ⟨x.cps[at_], by simp [hat]⟩
    have hcl : x.cps.toList[at_]? = some c := by rw [Array.getElem?_toList]; exact hc
    rw [drop_cons hcl] at hres
    by_cases h91 : c = 91
    · subst h91
      (try k_fold)
      k_steps
      refine halt_intro' ?_
      have hsl : (Txt.slice x (some ((at_ : Int) + 1)) (some ((at_ : Int) + 2)) == Str.ofString "^") = decide (x.cps.toList[at_ + 1]? = some 94) := by
        rw [sl_ss (a := at_ + 1) (b := at_ + 2) (by omega) (by omega) (by omega) (by omega), show at_ + 2 - (at_ + 1) = 1 from by omega, head_is lit_hat, List.head?_drop]
      refine find_from (c := 93) (k := (if x.cps.toList[at_ + 1]? = some 94 then at_ + 1 + 1 else at_ + 1) + 1) lit_rb ?hi ?h1 ?h2
      case hi =>
        rw [hsl]
        by_cases hh : x.cps.toList[at_ + 1]? = some 94
        · rw [show decide (x.cps.toList[at_ + 1]? = some 94) = true from decide_eq_true hh, if_pos hh, if_pos rfl]; omega
        · rw [show decide (x.cps.toList[at_ + 1]? = some 94) = false from decide_eq_false hh, if_neg hh, if_neg Bool.false_ne_true]; omega
      case h1 =>
        intro hno tk6 t6
        (try k_fold)
        k_steps
        (rename Fr _ _ _ _ => F')
        subst hR
        exact ret _ _ _ [] _ F'.keep (fun _ hp => nomatch hp) (hres _ (.bad (lot_plain_none _ Iff.rfl hno))) (fun ps e => by cases e) rfl
      case h2 =>
        intro j hj1 hj2 hj3 tk6 t6
        have hjl := (List.getElem?_eq_some_iff.mp hj2).1
        have hj4 : at_ + 1 < j := by
          split at hj1 <;> omega
        have hlot := lot_plain_some _ Iff.rfl (Nat.lt_of_succ_le hj1) hj2 hj3
        clear hj1 hj3 hsl
        (try k_fold)
        k_steps
        (rename Fr _ _ _ _ => F5); (rename News _ _ _ _ => N5)
        have hin : Txt.slice x (some ((at_ : Int) + 1)) (some (j : Int)) = ⟨((x.cps.toList.drop (at_ + 1)).take (j - (at_ + 1))).toArray⟩ := sl_ss (by omega) (by omega) (by omega) (by omega)
        refine lot_spec (by exact am.up F5.keep) (ok.low (by decide)) ?_ (fun h5 tk5 r lvs ln hs5 hN5 hA5 => ?_)
        · rw [hin]; simp; omega
        rw [hin] at hA5
        simp only [List.toList_toArray] at hA5
        have hoff2 := new_off hN5 (N5 _ (.head _)).1 _ (.head _)
        have F6 := F5.keeps hs5
        have N6 := N5.grown hs5
        have N7 := news_of_new F5 hN5
        have N8 : News h₀ L h5 ((r, listOf lvs.toArray ln) :: (a, listOf vs.toArray k) :: tl) := by
          intro p hp
          rcases List.mem_cons.mp hp with rfl | hp
          · exact N7 _ (.head _)
          · exact N6 _ hp
        clear F5 N5 N6 N7
        have hra : (r : Nat) ≠ a := hoff2
        have hres2 : ∀ o, GlobR (x.cps.toList.drop (j + 1)) o → GlobR x.cps.toList (o.map ((done ++ [_]) ++ ·)) := fun o ho => by
          have := hres _ (.lot hlot ho)
          rwa [map_snoc] at this
        clear hres
        k_steps
        (rename Fr _ _ _ _ => F'); (rename News _ _ _ _ => N')
        obtain ⟨N9, off9, hv9⟩ := lturn1n N' hra hoff hvs (lawAt_lot hA5)
        subst hR
        have hj6 : j + 1 ≤ x.cps.size := by omega
        exact ⟨_, _, _, _, _, (by omega : x.cps.size - (j + 1) < x.cps.size - at_), rfl, F', N9, j + 1, _, _, _, _, _, rfl, off9, hv9, by simp; omega, hj6, hres2, ⟨rfl, rfl, rfl, trivial⟩, rfl⟩
    · have hplain : ∀ o, GlobR (x.cps.toList.drop (at_ + 1)) o → GlobR x.cps.toList (o.map ((done ++ [globC c]) ++ ·)) := fun o ho => by
        have := hres _ (.plain h91 ho)
        rwa [map_snoc] at this
      (try k_fold)
      k_steps
      · (rename c = 42 => e1)
        rw [show globC c = .any from by simp [globC, e1]] at hplain
        (rename Fr _ _ _ _ => F'); (rename News _ _ _ _ => N')
        obtain ⟨N2, hv2⟩ := lturn0 (pd := .any) N' hvs ⟨_, rfl⟩
        subst hR
        exact ⟨_, _, _, _, _, (by omega : x.cps.size - (at_ + 1) < x.cps.size - at_), rfl, F', N2, at_ + 1, _, _, _, _, _, rfl, hoff, hv2, by simp; omega, by omega, hplain, ⟨rfl, rfl, rfl, trivial⟩, rfl⟩
      · (rename ¬ c = 42 => e1); (rename c = 63 => e2)
        rw [show globC c = .one from by simp [globC, e2]] at hplain
        (rename Fr _ _ _ _ => F'); (rename News _ _ _ _ => N')
        obtain ⟨N2, hv2⟩ := lturn0 (pd := .one) N' hvs ⟨_, rfl⟩
        subst hR
        exact ⟨_, _, _, _, _, (by omega : x.cps.size - (at_ + 1) < x.cps.size - at_), rfl, F', N2, at_ + 1, _, _, _, _, _, rfl, hoff, hv2, by simp; omega, by omega, hplain, ⟨rfl, rfl, rfl, trivial⟩, rfl⟩
      · (rename ¬ c = 42 => e1); (rename ¬ c = 63 => e2)
        rw [show globC c = .sign c from by simp [globC, e1, e2]] at hplain
        (rename _ ∧ AllLt _ _ => l1); (rename Fr _ _ _ _ => F'); (rename News _ _ _ _ => N')
        obtain ⟨N2, off2, hv2⟩ := lturn1 (pd := .sign c) N' l1.1 hoff hvs (lawAt_sign (.head _))
        subst hR
        exact ⟨_, _, _, _, _, (by omega : x.cps.size - (at_ + 1) < x.cps.size - at_), rfl, F', N2, at_ + 1, _, _, _, _, _, rfl, off2, hv2, by simp; omega, by omega, hplain, ⟨rfl, rfl, rfl, trivial⟩, rfl⟩
  · have hdone : x.cps.toList.drop at_ = [] := List.drop_eq_nil_of_le (by omega)
    rw [hdone] at hres
    (try k_fold)
    k_steps
    refine ret _ _ _ ((a, listOf vs.toArray k) :: tl) (some done) F4.keep (NewLed.of N3) ?_ ?_ ?_
    · have := hres _ .nil
      simpa using this
    · intro ps e
      cases e
      rw [← hvs.length]; omega
    · exact ⟨a, vs, k, rfl, .head _, hvs.mono fun v p => LawAt.mono (lsub_cons (lsub_refl _))⟩
end
end
section
open PySem PySem.Spec PySem.Calls PySem.Builtin in
section
variable {w : World} {A : Around} {E : Value → Shared → Prop} {h : Heap} {g : Array GenState} {d : Drawn} {t : Nat} {os : OsState}
abbrev bmE : List Value := [.type "Exception", .type "BaseException", .type "object"]
theorem sqlCls (w : World) : ∃ nm q bs hdct sn sub ab col dd k0 k1 k2 k3 k5, (hd.heap_39 w.params).lookup 44 = some (excClassObj nm q 44 43 bs (.ref 31 :: bmE) hdct sn sub ab col dd k0 k1 k2 k3 k5 "Exception.__new__") ∧ hdct = true :=
  ⟨_, _, _, _, _, _, _, _, _, _, _, _, _, _, rfl, rfl⟩
theorem initFn (w : World) : ∃ o, (hd.heap_39 w.params).lookup 28 = some o ∧ o.cls = .type "function" := ⟨_, rfl, rfl⟩
abbrev excObj (tt : Addr) : Obj := { cls := .ref 44, data := .fields #[.ref tt, .none, .none, .none, .bool false, .none] }
abbrev tupObj (vs : List Value) : Obj := { cls := .type "tuple", data := .seq vs.toArray }
theorem exc_check (X : (hd.heap_39 w.params).In h) {rest : List Value} {M : Model} {Q : Unit → Shared → Prop} (hq : Q () ⟨h, g, d, t, os⟩) : wpAny M A (checkBuiltinCall "Exception.__new__" ⟨.ref 44 :: rest, []⟩) Q E ⟨h, g, d, t, os⟩ := by
  obtain ⟨nm, q, bs, hdct, sn, sub, ab, col, dd, k0, k1, k2, k3, k5, hC, -⟩ := sqlCls w
  replace hC := X _ _ hC
  have F := PySem.F.excBase_Exception
  have hcB : (Value.ref 44 :: .ref 31 :: bmE).contains (.type "Exception") = true := by decide
  have hstar := F.noStar
  simp only [checkBuiltinCall, F.newKind, F.newSplit, F.newRow]
  repeat (first | refine wpAny_loadPart_at hC ?_ | (refine wpAny_isSubtype_exc hC ?_; rw [hcB]) | refine wpAny_staticBase_exc hC ?_ | refine wpAny_madeBy_exc hC ?_ | simp only [bne_self_eq_false, Bool.false_eq_true, if_false] | wp_step)
  exact hq
theorem exc_new {R : Result → Shared → Prop} (X : (hd.heap_39 w.params).In h) {rest : List Value} (hrest : rest.length ≤ 100)
    (hq : R (.ok (.ret (.ref (h.objs.size + 1)))) ⟨(h.push (tupObj rest)).push (excObj h.objs.size), g, d, t, os⟩) :
    codeAny (model PySem.Challenge.rw_nt0095_01.row.prog w) A (.builtin "Exception.__new__" ⟨.ref 44 :: rest, []⟩) R ⟨h, g, d, t, os⟩ := by
  obtain ⟨nm, q, bs, hdct, sn, sub, ab, col, dd, k0, k1, k2, k3, k5, hC, -⟩ := sqlCls w
  replace hC := X _ _ hC
  have F := PySem.F.excBase_Exception
  have hsz : rest.length ≤ sizeLine := by rw [sizeLine_eq]; omega
  have hends := F.ends
  have hcB : (Value.ref 44 :: .ref 31 :: bmE).contains (.type "Exception") = true := by decide
  have hcA : (Value.ref 44 :: .ref 31 :: bmE).contains (.type "AttributeError") = false := by decide
  have hcN : (Value.ref 44 :: .ref 31 :: bmE).contains (.type "NameError") = false := by decide
  refine codeAny_builtinAt F.entry ?_
  unfold Builtin.«BaseException.__new__»
  refine PySem.wpAt_bind ?_
  show PySem.wpAt _ _ _ (stack >>= _) _ _ _
  refine PySem.wpAt_bind (PySem.wpAt_stack fun p below => PySem.wpAt_of_wpAny ?_)
  wp_walk
  refine PySem.wpAt_of_wpAny ?_
  rw [F.owner]
  repeat (first | with_reducible refine wpAny_madeHere_exc F.canon hC ?_ | with_reducible refine wpAny_loadPart_at hC ?_ | (with_reducible refine wpAny_isSubtype_exc hC ?_; first | rw [hcB] | rw [hcA] | rw [hcN]) | wp_step)
  show R _ _
  rw [Heap.size_push]
  exact hq
theorem exc_type_call (X : (hd.heap_39 w.params).In h) {rest : List Value} (hrest : rest.length ≤ 100) {Q : Fin → Shared → Prop}
    (hq : ∀ h' e, Heap.MadeExcOf h h' e (.ref 44) rest →
      wpAny (model PySem.Challenge.rw_nt0095_01.row.prog w) A (call (.ref 28) (.ref e :: rest)) (fun r s' => r = .none ∧ Q (.done (.ret (.ref e))) s') E ⟨h', g, d, t, os⟩) :
    wpAny (model PySem.Challenge.rw_nt0095_01.row.prog w) A (Builtin.«type.__call__» ⟨.ref 44 :: rest, []⟩) Q E ⟨h, g, d, t, os⟩ := by
  obtain ⟨nm, q, bs, hdct, sn, sub, ab, col, dd, k0, k1, k2, k3, k5, hC, -⟩ := sqlCls w
  replace hC := X _ _ hC
  obtain ⟨oI, hfI, hfc⟩ := initFn w
  have hi : findIn (hd.heap_39 w.params) (.ref 44) "__init__" = some (some (.ref 28)) := by with_unfolding_all rfl
  have hf : typeIn (hd.heap_39 w.params) (.ref 28) = some (.type "function") := by with_unfolding_all rfl
  have F := PySem.F.excBase_Exception
  repeat (first | with_reducible refine wpAny_loadPart_at hC ?_ | with_reducible refine wpAny_madeBy_exc hC ?_ | wp_step)
  refine codeAny_call_builtin_code (Code.quiet_builtin _ F.quiet) (exc_check X ?_)
  refine exc_new X hrest ?_
  show wpAny _ _ _ _ _ _
  have kk : ∀ b o, h.get? b = some o → ((h.push (tupObj rest)).push (excObj h.objs.size)).get? b = some o := fun b o e => Heap.get?_push_of_some _ (Heap.get?_push_of_some _ e)
  have X₁ : (hd.heap_39 w.params).In ((h.push (tupObj rest)).push (excObj h.objs.size)) := X.keeps kk
  have hC₁ := kk _ _ hC
  have hget : ((h.push (tupObj rest)).push (excObj h.objs.size)).get? (h.objs.size + 1) = some (excObj h.objs.size) := by heap_get
  have hcC : (Value.ref 44 :: .ref 31 :: bmE).contains (.ref 44) = true := by decide
  unfold isInstance
  repeat (first | with_reducible refine wpAny_loadPart_at hget ?_ | (with_reducible refine wpAny_isSubtype_exc hC₁ ?_; rw [hcC]) | wp_step)
  show wpAny _ _ (typeLookup (.ref 44) _) _ _ _
  refine (looks_findIn X₁ hi).here ?_
  refine wpAny_holding (wpAny_bind ((bind_fn X₁ _ hf).here ?_))
  refine wpAny_bind (wpAny_mono (hq _ (h.objs.size + 1) ⟨kk, Heap.get?_none_of_le (Nat.le_succ _), h.objs.size, hget, Heap.get?_none_of_le (Nat.le_refl _), ?_⟩) (fun r s' hr => ?_) fun _ _ x => x)
  · exact Heap.get?_push_of_some _ (Heap.get?_push_at rfl rfl)
  · obtain ⟨rfl, hQ⟩ := hr
    wp_walk
    exact hQ
theorem exc_call (X : (hd.heap_39 w.params).In h) {rest : List Value} (hrest : rest.length ≤ 100) {Q : Value → Shared → Prop}
    (hq : ∀ h' e, Heap.MadeExcOf h h' e (.ref 44) rest →
      wpAny (model PySem.Challenge.rw_nt0095_01.row.prog w) (A.under (.builtin "type.__call__" ⟨.ref 44 :: rest, []⟩)) (call (.ref 28) (.ref e :: rest)) (fun r s' => r = .none ∧ Q (.ref e) s') E ⟨h', g, d, t, os⟩) :
    wpAny (model PySem.Challenge.rw_nt0095_01.row.prog w) A (call (.ref 44) rest) Q E ⟨h, g, d, t, os⟩ := by
  obtain ⟨nm, q, bs, hdct, sn, sub, ab, col, dd, k0, k1, k2, k3, k5, hC, -⟩ := sqlCls w
  replace hC := X _ _ hC
  have f1 := tc_lookup
  have f2 := tc_bind (.ref 44)
  have hT : (⟨h, g, d, t, os⟩ : Shared).TypeIs (.ref 44) "type" := ⟨_, hC, rfl⟩
  refine wpAny_call (codeAny_of_tree ?_)
  show wpAny _ _ (callAny (.ref 44) _) _ _ _
  repeat (any_goals (first | assumption | with_reducible refine wpAny_loadPart_at hC ?_ | wp_step))
  refine ⟨rfl, ?_⟩
  exact codeAny_call_builtin_at (Code.quiet_builtin _ (by decide +kernel)) entry_typeCall (wpAny_check_type_call_sub hC (exc_type_call X hrest hq))
end
end
section
open PySem PySem.Spec PySem.Calls PySem.Builtin in
section
variable {w : World} {A : Around} {E : Value → Shared → Prop} {h : Heap} {g : Array GenState} {d : Drawn} {t : Nat} {os : OsState}
abbrev excDict (tt dx : Addr) : Obj := { cls := .ref 44, dict := some dx, data := .fields #[.ref tt, .none, .none, .none, .bool false, .none] }
theorem exc_store {x tt : Addr} {v : Value} {tk : Tok} {R : Result → Shared → Prop} (X : (hd.heap_39 w.params).In h) (hx : h.get? x = some (excObj tt))
    (hq : ∀ h' tk' dx, (∀ b o, b ≠ x → h.get? b = some o → h'.get? b = some o) → h'.get? x = some (excDict tt dx) → R (.ok (.ret .none)) ⟨h', g, d, tk', os⟩) :
    codeAny (model PySem.Challenge.rw_nt0095_01.row.prog w) A (.call (.builtin "object.__setattr__") ⟨[.ref x, .str (Str.ofString "message") tk, v], []⟩) R ⟨h, g, d, t, os⟩ := by
  have SF := PySem.F.store_object
  have hty : Looks (model PySem.Challenge.rw_nt0095_01.row.prog w) h (typeOf (.ref x)) (.ref 44) := (Looks.ld hx).andThen .now
  have hmro : mroIn (hd.heap_39 w.params) 44 (.type "object") = some true := by with_unfolding_all rfl
  have sub : Looks (model PySem.Challenge.rw_nt0095_01.row.prog w) h (isInstance (.ref x) (.type "object")) true := hty.andThen (looks_mroIn X hmro)
  have hfm : findIn (hd.heap_39 w.params) (.ref 44) (Str.ofString "message") = some none := by with_unfolding_all rfl
  obtain ⟨nm, q, bs, hdct, sn, sub', ab, col, dd, k0, k1, k2, k3, k5, hC, hdc⟩ := sqlCls w
  subst hdc
  replace hC := X _ _ hC
  refine codeAny_call_builtin SF.slot.plain SF.entry (@check_slot (model PySem.Challenge.rw_nt0095_01.row.prog w) _ _ ⟨h, g, d, t, os⟩ "object.__setattr__" "object" "__setattr__" (.ref x) [.str (Str.ofString "message") tk, v] [] _ SF.kind SF.split sub (SF.args (.ref x) (.str (Str.ofString "message") tk) v) ?_)
  rw [osa_eq, refuse_eq]
  refine wpAny_bind (wpAny_bind (hty.here (wpAny_bind (wpAny_mroOf_exc hC ?_))))
  rw [refuseLoop_ref, refuseLoop_ref, show refuseLoop (.ref x) "__setattr__" bmE = pure () from PySem.F.store_Exception.passes (.ref x)]
  refine wpAny_pure (wpAny_bind (hty.here (wpAny_bind ((looks_findIn X hfm).here (wpAny_bind (wpAny_pure ?_))))))
  have hxs : x ≠ h.objs.size := Nat.ne_of_lt (Heap.lt_size hx)
  have hx₁ : (h.push { cls := .type "dict", data := .dict #[] }).get? x = some (excObj tt) := Heap.get?_push_of_some _ hx
  repeat (first | with_reducible refine wpAny_nsSet1 (m := fun _ => none) ?_ ?_ | with_reducible refine wpAny_loadPart_at hx ?_ | with_reducible refine wpAny_loadPart_at hC ?_ | wp_step)
  · refine Heap.Ns1.of_empty ⟨_, #[], _, (Heap.get?_update_ne _ _ _ _ hxs.symm).trans (Heap.get?_push_at rfl rfl), rfl, fun e he => absurd he (by simp), fun _ => rfl⟩
  · intro h' hn' hs
    obtain ⟨oD, esD, epD, hoD, hdD, hcD⟩ := hn'.count (Within.cons (Str.ofString "message") v Within.nil)
    refine wpAny_bind (wpAny_lookBehind hoD (by rw [hdD]; exact pastItsLine_dict (Nat.le_trans hcD (by rw [List.length_cons, List.length_nil, sizeLine_eq]; omega))) ?_)
    refine wpAny_pure (hq h' _ h.objs.size (fun b o hb e => ?_) ?_)
    · exact (hs.2 b (Nat.ne_of_lt (Heap.lt_size e))).trans ((Heap.get?_update_ne _ _ _ _ hb).trans (Heap.get?_push_of_some _ e))
    · exact (hs.2 x hxs).trans (Heap.get?_update_self _ hx₁ rfl)
theorem exc_set {x tt : Addr} {v : Value} {Q : Unit → Shared → Prop} (X : (hd.heap_39 w.params).In h) (hx : h.get? x = some (excObj tt))
    (hq : ∀ h' tk' dx, (∀ b o, b ≠ x → h.get? b = some o → h'.get? b = some o) → h'.get? x = some (excDict tt dx) → Q () ⟨h', g, d, tk', os⟩) :
    wpAny (model PySem.Challenge.rw_nt0095_01.row.prog w) A (setAttr (.ref x) (Str.ofString "message") v) Q E ⟨h, g, d, t, os⟩ := by
  have hs : findIn (hd.heap_39 w.params) (.ref 44) "__setattr__" = some (some (.builtin "object.__setattr__")) := by with_unfolding_all rfl
  exact set_plain (ox := excObj tt) (od := none) X ⟨hx, rfl, rfl, trivial⟩ hs (exc_store X hx fun h' tk' dx k e => hq h' tk' dx k e)
end
end
section
theorem exc_init {w : World} {A : Around} {s : Shared} {G : Heap} {e tt : Addr} {v : Value} (am : Amb w G) (hG : Sub G s.heap) (hGe : G.get? e = none) (he : s.heap.get? e = some (excObj tt)) (hroom : A.depth < recursionLimit) {Q : Value → Shared → Prop} {E : Value → Shared → Prop}
    (ret : ∀ h' tk dx, KeepBut e s.heap h' → h'.get? e = some (excDict tt dx) → Q .none { s with heap := h', toks := tk }) :
    wpAny (model PySem.Challenge.rw_nt0095_01.row.prog w) A (call (.ref 28) [.ref e, v] []) Q E s := by
  refine wpAny_noRaise ?_
  refine' enterS (binds := [(Str.ofString "self", .ref e), (Str.ofString "message", v)]) ?k1 ?k1b ?k1c ?k1d ?k2 ?k3 ?k4 ?k5 ?k6 ?_ ?c1 ?c2 ?c3 ?c4
  (case k1 => assumption); (case k1b => assumption); (case k1c => assumption); (case k1d => assumption); (case k2 => assumption); (case k3 => k_is); (case k4 => k_is); (case k5 => first | exact BindsTo.of_eq rfl | exact binds_K (by k_in) rfl (by k_is) rfl rfl rfl); (case k6 => exact locs rfl); (case c1 => exact rfl); (case c2 => exact rfl); (case c3 => exact rfl); (case c4 => decide)
  intro L h₁ hL am2 F N
  have X := am2.X
  obtain ⟨p, l, mg, mb, T⟩ := am2.T
  (try k_fold)
  k_steps
  refine exc_set (X.keeps F.keep) (N _ (.head _)).1 (fun h' tk' dx k e' => ?_)
  exact wpAny_execs_nil (ret h' tk' dx (fun b o hb eb => k b o hb (keep_of_hide F.keep b o hb eb)) e')
end
section
open PySem PySem.Spec PySem.Calls in
theorem exc_raise {w : World} {A : Around} {E : Value → Shared → Prop} {s : Shared} {env : Env} {x : Expr} {pos : Pos} {Q : Flow → Shared → Prop} (hh : A.handled = none)
    (h : wpAny (model PySem.Challenge.rw_nt0095_01.row.prog w) A (eval x env) (fun v s₁ => ∃ e tt dx, v = .ref e ∧ (hd.heap_39 w.params).In s₁.heap ∧ s₁.heap.get? e = some (excDict tt dx) ∧ E (.ref e) s₁) E s) :
    wpAny (model PySem.Challenge.rw_nt0095_01.row.prog w) A (exec (.Raise (some x) none pos) env) Q E s := by
  rw [arm_exec_Raise]
  refine wpAny_bind (wpAny_standAt ?_)
  show wpAny _ _ (raiseStmt env (some (do let v ← eval x env; standAt pos; pure v)) none) _ _ _
  unfold raiseStmt
  refine wpAny_bind (wpAny_bind (wpAny_mono h (fun v s₁ h₁ => wpAny_bind (wpAny_standAt (wpAny_pure ?_))) fun _ _ x => x))
  obtain ⟨e, tt, dx, rfl, X, he, hE⟩ := h₁
  obtain ⟨hp, g, d, tk, os⟩ := s₁
  obtain ⟨nm, q, bs, hdct, sn, sub, ab, col, dd, k0, k1, k2, k3, k5, hC, -⟩ := sqlCls w
  replace hC := X _ _ hC
  have hcB : (Value.ref 44 :: .ref 31 :: bmE).contains (.type "BaseException") = true := by decide
  repeat (first | with_reducible refine wpAny_loadPart_at he ?_ | with_reducible refine wpAny_loadPart_at hC ?_ | (with_reducible refine wpAny_isSubtype_exc hC ?_; rw [hcB]) | wp_step)
  exact wpAny_raiseNew_none hh hE
open PySem PySem.Spec PySem.Calls in
theorem leave_sql {M : Model} {A : Around} {E : Value → Shared → Prop} {s' : Shared} {G g h : Heap} {outer : List Env} {L a e tt dx : Addr} {m : Str → Option Value} {name : Str} {scope : Scope} {cd : Value} {Q : Unit → Shared → Prop}
    (K : Below A G outer g) (F : Fr g L h m) (kk : Sub h s'.heap) (hne : h.get? e = none) (e3 : s'.heap.get? e = some (excDict tt dx))
    (hQ : ∀ h4, Heap.FlyingW G outer e (.ref 44) (.ref tt) h4 → g.UpToSlots h4 → Q () { s' with heap := h4 }) (hk : scope.kind = .function := by rfl) :
    wpAny M (A.deeper (envOf name scope L a cd)) (leaving (envOf name scope L a cd) (.ref e)) Q E s' := by
  have K' := K.push (name := name) (a := a) (cd := cd) F hk
  have hen : G.get? e = none := by
    cases q : G.get? e with
    | none => rfl
    | some o => have := K'.stays e o q; rw [hne] at this; cases this
  refine wpAny_leaving_firstW K'.stack (K'.frames.of_keeps fun b o eb _ => ⟨o, kk b o eb, rfl⟩) rfl e3 (fun b o eb => kk b o (K'.stays b o eb)) hen rfl rfl rfl (fun h4 hl => ?_)
  obtain ⟨l1, ⟨_, _, l2⟩, l3, l4⟩ := hl
  exact hQ h4 ⟨l1, hen, l2, l3⟩ ((Heap.UpToSlots.of_keeps fun b o eb => kk b o (F.keep b o eb)).trans l4)
end
section
section
local macro_rules | `(tactic| walk_at "exec Raise some none") => `(tactic| (k_here; k_dflt (refine' exc_raise ?hh ?_; (case hh => (obtain ⟨okh9, _⟩ := ‹Ok _ _›; exact okh9)))))
local macro_rules | `(tactic| walk_at "call ref") => `(tactic| (k_here; (with_reducible show wpAny _ _ (call (Value.ref 44) _ _) _ _ _); refine halt_intro ?_))
theorem like_raise {w : World} {A : Around} {s : Shared} {G : Heap} {outer : List Env} {x y z : Str} {t u v : Tok} (K : Below A G outer s.heap) (am : Amb w s.heap) (ok : Ok 3 A) (hz : z.cps.size ≠ 1) (hz2 : z.cps.size ≤ 1000) {Q : Value → Shared → Prop} {E : Value → Shared → Prop}
  (ret : ∀ h' tk e a0, Heap.FlyingW G outer e (.ref 44) a0 h' → s.heap.UpToSlots h' → E (.ref e) { s with heap := h', toks := tk }) :
    wpAny (model PySem.Challenge.rw_nt0095_01.row.prog w) A (call (.ref 104) [.str x t, .str y u, .str z v] []) Q E s := by
  have X := am.X
  obtain ⟨p, l, mg, mb, T⟩ := am.T
  refine' enter (G := s.heap) (news := []) (binds := [(Str.ofString "pattern", .str x t), (Str.ofString "text", .str y u), (Str.ofString "escape", .str z v)]) am (Sub.refl _) (Nat.le_refl _) (fun _ hp => nomatch hp) ?k2 ?k3 ?k4 ?k5 ?k6 ?_ ?c1 ?c2 ?c3 ?c4
  (case k2 => k_room); (case k3 => k_is); (case k4 => k_is); (case k5 => first | exact BindsTo.of_eq rfl | exact binds_K (by k_in) rfl (by k_is) rfl rfl rfl); (case k6 => exact locs rfl); (case c1 => exact rfl); (case c2 => exact rfl); (case c3 => exact rfl); (case c4 => decide)
  intro L h₁ hL _ F N
  (try k_fold)
  k_steps
  · refine halt_intro' (exc_call (X.keeps F.keep) (Nat.le_of_ble_eq_true rfl) (fun h' e hm => ?_))
    obtain ⟨tt, he, -, -⟩ := hm.there
    have am2 : Amb w h₁ := am.up F.keep
    refine exc_init (G := h₁) (s := { s with heap := h', toks := _ }) am2 hm.keeps hm.new he ?_ (fun h'' tk' dx k3 e3 => ⟨rfl, ?_⟩)
    · have := ok.2.1; simp only [depth_under_kw, recursionLimit, depth_deeper]; omega
    have kk : Sub h₁ h'' := fun b o eb => k3 b o (fun q => by rw [q, hm.new] at eb; cases eb) (hm.keeps b o eb)
    refine ⟨e, tt, dx, rfl, (X.keeps F.keep).keeps kk, e3, ?_⟩
    exact leave_sql K F kk hm.new e3 (fun h4 hf hu => ret h4 _ e _ hf hu)
  · omega
end
end
section
def TEnd2 (G : Heap) (L : Addr) (I l : Addr) (oI ol : Obj) (Inv : (Str → Option Value) → List (Addr × Obj) → Prop) (s : Shared) (Q : Flow → Shared → Prop) (f : Flow) (s₂ : Shared) : Prop :=
  match f with
  | .ret v => Q (.ret v) s₂
  | .brk => Q .next s₂
  | _ => ∃ h' tk' m' news', s₂ = { s with heap := h', toks := tk' } ∧ Fr G L h' m' ∧ News G L h' ((I, oI) :: (l, ol) :: news') ∧ (∀ p ∈ news', p.1 ≠ I) ∧ Inv m' news'
section
variable {prog : Program} {w : World} {A : Around} {E : Value → Shared → Prop} {s : Shared} {env : Env} {G : Heap} {x : Str} {body : List Stmt} {Q : Flow → Shared → Prop} {m₀ : Str → Option Value} {news₀ : List (Addr × Obj)}
theorem loop_led {l : Addr} {vs : List Value} {k : Nat} (hh : A.handled = none) (hm : (l, listOf vs.toArray k) ∈ news₀) (F : Fr G env.locals s.heap m₀) (N : News G env.locals s.heap news₀)
    (Inv : Nat → (Str → Option Value) → List (Addr × Obj) → Prop) (h0 : Inv 0 m₀ news₀)
    (turn : ∀ i v m news h tk I oI ol, vs[i]? = some v → Inv i m news → (∀ p ∈ news, p.1 ≠ I) → (∀ p ∈ news₀, @LT.lt Nat _ p.1 I) → Fr G env.locals h (fun y => if y = x then some v else m y) → News G env.locals h ((I, oI) :: (l, ol) :: news) →
      wpAny (model prog w) A (execs body env) (TEnd2 G env.locals I l oI ol (Inv (i + 1)) s Q) E { s with heap := h, toks := tk })
    (done : ∀ m news h tk, Inv vs.length m news → Fr G env.locals h m → News G env.locals h news → Q .next { s with heap := h, toks := tk }) :
    wpAny (model prog w) A (pyIter (.ref l)) (fun it s₂ => LoopAtV prog w A G env x body Q E it s₂) E s := by
  have hls : s.heap.IsList l vs.toArray := N.isList hm
  have hlG := (N _ hm).2.2
  have hlL := (N _ hm).2.1
  have hne : l ≠ s.heap.objs.size := Nat.ne_of_lt (Heap.lt_size (N _ hm).1)
  refine wpAny_pyIter_list hls ?_
  have W := Walks.list (prog := prog) (w := w) hh s.heap.objs.size l hne vs.toArray
  have hI : s.heap.get? s.heap.objs.size = none := by
    cases e : s.heap.get? s.heap.objs.size with
    | none => rfl
    | some o => exact absurd (Heap.lt_size e) (Nat.lt_irrefl _)
  have hIG : G.get? s.heap.objs.size = none := by
    cases e : G.get? s.heap.objs.size with
    | none => rfl
    | some o => rw [F.keep _ _ e] at hI; cases hI
  have lt : ∀ p ∈ news₀, @LT.lt Nat _ p.1 s.heap.objs.size := fun p hp => Heap.lt_size (N p hp).1
  have hsz : vs.toArray.size = vs.length := by simp
  rw [hsz] at W
  have hLI : env.locals ≠ s.heap.objs.size := Nat.ne_of_lt F.ns.lt
  generalize hIe : s.heap.objs.size = I at *
  refine ⟨I, [I, l], [I], vs.length, _, _, m₀, news₀, Inv, rfl, W, ?_, ?_, ?_, ?_, F.push _, fun p hp => ⟨Heap.get?_push_of_some _ (N p hp).1, (N p hp).2⟩, h0, ?_, ?_⟩
  · intro hm
    rcases List.mem_cons.mp hm with e | hm
    · exact hLI e
    · exact hlL (List.mem_singleton.mp hm).symm
  · intro b hb
    rw [List.mem_singleton.mp hb]; exact hIG
  · intro p hp hb
    exact Nat.ne_of_lt (lt p hp) (List.mem_singleton.mp hb)
  · exact ⟨⟨_, by rw [← hIe]; exact Heap.get?_push_size _ rfl, rfl, rfl⟩, hls.at fun o e => Heap.get?_push_of_some _ e⟩
  · rintro i v m₁ news₁ s₁ own ⟨h, tk, rfl⟩ hi hP hJ hoff hown hget hall hst' F₁ N₁
    obtain ⟨⟨oI, hoI, _⟩, ⟨ol, hol, _⟩⟩ := hst'
    have hinI : (I, oI) ∈ own := hall I (.head _) hIG oI hoI
    have hinl : (l, ol) ∈ own := hall l (.tail _ (.head _)) hlG ol hol
    have only : ∀ p ∈ own, p = (I, oI) ∨ p = (l, ol) := fun p hp => by
      have h2 := hget p hp
      rcases List.mem_cons.mp (hown p hp) with e | e
      · rw [e, hoI] at h2; exact .inl (Prod.ext e (Option.some.inj h2).symm)
      · have e := List.mem_singleton.mp e
        rw [e, hol] at h2; exact .inr (Prod.ext e (Option.some.inj h2).symm)
    have N₂ : News G env.locals h ((I, oI) :: (l, ol) :: news₁) := fun p hp => by
      rcases List.mem_cons.mp hp with rfl | hp
      · exact N₁ _ (List.mem_append_left _ hinI)
      · rcases List.mem_cons.mp hp with rfl | hp
        · exact N₁ _ (List.mem_append_left _ hinl)
        · exact N₁ _ (List.mem_append_right _ hp)
    refine wpAny_mono (turn i v m₁ news₁ h tk I oI ol (by simpa using hP) hJ (fun p hp e => hoff p hp (List.mem_singleton.mpr e)) lt F₁ N₂) (fun f s₂ p => ?_) fun _ _ e => e
    have fin : (∃ h' tk' m' news', s₂ = { s with heap := h', toks := tk' } ∧ Fr G env.locals h' m' ∧ News G env.locals h' ((I, oI) :: (l, ol) :: news') ∧ (∀ p ∈ news', p.1 ≠ I) ∧ Inv (i + 1) m' news') →
        LoopStepU G env.locals [I] own (Inv (i + 1)) { s with heap := h, toks := tk } .next s₂ := by
      rintro ⟨h', tk', m', news', rfl, F', N', ho', hJ'⟩
      refine ⟨rfl, h', tk', m', news', rfl, F', ?_, fun p hp hb => ho' p hp (List.mem_singleton.mp hb), hJ'⟩
      intro p hp
      rcases List.mem_append.mp hp with q | q
      · rcases only p q with rfl | rfl
        · exact N' _ (.head _)
        · exact N' _ (.tail _ (.head _))
      · exact N' _ (.tail _ (.tail _ q))
    cases f with
    | ret v => exact .ret p
    | brk => exact .brk p
    | next => exact .next (fin p)
    | cont => exact .cont (fin p)
  · intro h' tk m' news' F' N' _ hJ
    exact done m' news' h' tk hJ F' N'
end
open PySem PySem.Spec PySem.Calls in
theorem below_esc {A : Around} {G h : Heap} {lenv : Env} {L Lo a : Addr} {oo : Obj} {m : Str → Option Value} {name : Str} {scope : Scope} {cd : Value} {g : Heap} (K : Below A G [lenv] g) (hLo : lenv.frame = some Lo) (ho : h.get? Lo = some oo) (hnf : ∀ vs, oo.data ≠ .fields vs) (hGo : G.get? Lo = none) (F : Fr G L h m) (hk : scope.kind = .function := by rfl) :
    Below (A.deeper (envOf name scope L a cd)) G [envOf name scope L a cd, lenv] h := by
  have hnew : G.get? L = none := by
    cases hq : G.get? L with
    | none => rfl
    | some o => exact absurd (Nat.lt_of_lt_of_le (Heap.lt_size hq) F.above) (Nat.lt_irrefl _)
  refine ⟨Around.frames_deeper K.stack, F.keep, .cons (by show scope.kind ≠ .module; rw [hk]; decide) rfl F.ns hnew ?_⟩
  exact ⟨K.frames.1, ⟨Lo, oo, hLo, hGo, ho, hnf⟩, trivial⟩
open PySem PySem.Spec PySem.Calls in
theorem below_hide {A : Around} {G h : Heap} {lenv : Env} {L Lo a : Addr} {oo : Obj} {m : Str → Option Value} {name : Str} {scope : Scope} {cd : Value} {g : Heap} (K : Below A G [lenv] g) (hLo : lenv.frame = some Lo) (ho : h.get? Lo = some oo) (hnf : ∀ vs, oo.data ≠ .fields vs) (F : Fr G L h m) (hk : scope.kind = .function := by rfl) :
    Below (A.deeper (envOf name scope L a cd)) (hideAll h [L, Lo]) [envOf name scope L a cd, lenv] h := by
  refine ⟨Around.frames_deeper K.stack, hide_sub _ _, .cons (by show scope.kind ≠ .module; rw [hk]; decide) rfl F.ns (hideAll_none _ (.head _)) ?_⟩
  exact ⟨K.frames.1, ⟨Lo, oo, hLo, hideAll_none _ (.tail _ (.head _)), ho, hnf⟩, trivial⟩
end
section
section
local macro_rules | `(tactic| walk_at "call ref") => `(tactic| (k_here; (with_reducible show wpAny _ _ (call (Value.ref 104) _ _) _ _ _); refine halt_intro ?_))
theorem escapes_spec {w : World} {A : Around} {s : Shared} {G : Heap} {lenv : Env} {Lo : Addr} {oo : Obj} {x : Str} {t : Tok} (K : Below A G [lenv] s.heap) (hLo : lenv.frame = some Lo) (ho : s.heap.get? Lo = some oo) (hnf : ∀ vs, oo.data ≠ .fields vs) (hGo : G.get? Lo = none) (hz : G.objs.size ≤ s.heap.objs.size)
    (am : Amb w G) (ok : Ok 4 A) {Q : Value → Shared → Prop} {E : Value → Shared → Prop}
  (ret : ∀ h' tk sl, Sub G h' → h'.get? Lo = some { oo with slots := sl } → Q (.bool true) { s with heap := h', toks := tk }) :
    wpAny (model PySem.Challenge.rw_nt0095_01.row.prog w) A (call (.ref 205) [.str x t] []) Q E s := by
  refine wpAny_noRaise ?_
  have X := am.X
  obtain ⟨p, l, mg, mb, T⟩ := am.T
  refine' enter (G := G) (news := [(Lo, oo)]) (binds := [(Str.ofString "text", .str x t)]) am K.stays hz ?kN ?k2 ?k3 ?k4 ?k5 ?k6 ?_ ?c1 ?c2 ?c3 ?c4
  (case kN => exact fun p hp => by rw [List.mem_singleton.mp hp]; exact ⟨ho, hGo⟩); (case k2 => k_room); (case k3 => k_is); (case k4 => k_is); (case k5 => first | exact BindsTo.of_eq rfl | exact binds_K (K := hd.heap_39 w.params) (X.keeps K.stays) rfl (by k_is) rfl rfl rfl); (case k6 => exact locs rfl); (case c1 => exact rfl); (case c2 => exact rfl); (case c3 => exact rfl); (case c4 => decide)
  intro L h₁ hL _ F N
  (try k_fold)
  k_steps
  (rename Fr _ _ _ _ => F1); (rename News _ _ _ _ => N1)
  rename_i la _ l1
  refine loop_led ok.1 (.head _) F1 N1 (fun i m news => ∃ sl, (Lo, { oo with slots := sl }) ∈ news ∧ Has m [(Str.ofString "text", .str x t)]) ⟨oo.slots, .tail _ (.head _), ⟨rfl, trivial⟩⟩ ?_ ?_
  · clear F1 N1
    rintro i v m news h tk I oI ol hv ⟨sl, hmo, hm⟩ hoff hlt F3 N3
    obtain ⟨z, tz, rfl, hz1, hz2⟩ : ∃ z tz, v = .str z tz ∧ z.cps.size ≠ 1 ∧ z.cps.size ≤ 1000 := AllV.get (P := fun v => ∃ z tz, v = .str z tz ∧ z.cps.size ≠ 1 ∧ z.cps.size ≤ 1000) (by repeat' (first | exact trivial | refine ⟨⟨_, _, rfl, by decide +kernel, by decide +kernel⟩, ?_⟩)) hv
    have hm2 : Has (fun y => if y = Str.ofString "odd" then some (Value.str z tz) else m y) [(Str.ofString "text", .str x t), (Str.ofString "odd", .str z tz)] := ⟨hm.1, rfl, trivial⟩
    have F4 := frMany hm2 F3
    clear F3
    (try k_fold)
    k_steps
    have hLom : h.get? Lo = some { oo with slots := sl } := (N3 _ (.tail _ (.tail _ hmo))).1
    refine halt_intro' (like_raise (by exact below_hide (oo := { oo with slots := sl }) K hLo hLom hnf F4) (by exact am.up F4.keep) (ok.low (by decide)) hz1 hz2 (fun h' tk' e a0 hfl hup => ?_))
    refine wpAny_looks_onW (Around.frames_deeper K.stack) rfl hfl fun h₄ hheld₄ hsm₄ => ?_
    refine wpAny_landsW hheld₄ fun h₅ hheld hsm₅' => ?_
    have hsm₅ := hsm₄.trans hsm₅'
    have hLG : G.get? L = none := by
      cases q : G.get? L with
      | none => rfl
      | some o => exact absurd (Nat.lt_of_lt_of_le (Heap.lt_size q) F4.above) (Nat.lt_irrefl _)
    have GG : ∀ b o, G.get? b = some o → (hideAll h [L, Lo]).get? b = some o := fun b o q => hideAll_get _ (F4.keep b o q) fun hb => by
      rcases List.mem_cons.mp hb with hb | hb
      · rw [hb, hLG] at q; cases q
      · rw [List.mem_singleton.mp hb, hGo] at q; cases q
    have F₅ := F4.of_stays (fun b o q => hheld.1 b o (GG b o q)) (hup.trans hsm₅)
    obtain ⟨ob, hob, hobc⟩ := hheld.there
    have ex : nsIn (hd.heap_39 w.params) mainGlobals (Str.ofString "SqlError") = some (some (.ref 44)) := by with_unfolding_all rfl
    refine wpAny_handleBy_cons (codeAny_handlers_test (name_K F₅ X T ex ?_ rfl rfl (by decide))) (by intro q; cases q)
    obtain ⟨nm, q, bs, hdct, sn, sub, ab, col, dd, k0, k1, k2, k3, k5, hC, -⟩ := sqlCls w
    replace hC := (X.keeps F₅.keep) _ _ hC
    refine wpAny_excMatches_sub_self hC hob hobc (by decide) (codeAny_handlers_suite ?_)
    refine lands_againW hheld fun h₆ hfl₆ hsm₆ => ?_
    have F₆ := F4.of_stays (fun b o q => hfl₆.1 b o (GG b o q)) ((hup.trans hsm₅).trans hsm₆)
    obtain ⟨sl2, hsl2⟩ := ((hup.trans hsm₅).trans hsm₆) Lo _ hLom hnf
    have N₆ : News G L h₆ ((I, oI) :: (la, ol) :: [(Lo, { oo with slots := sl2 })]) := fun p hp => by
      rcases List.mem_cons.mp hp with rfl | hp
      · refine ⟨hfl₆.1 _ _ (hideAll_get _ (N3 _ (.head _)).1 fun hb => ?_), (N3 _ (.head _)).2⟩
        rcases List.mem_cons.mp hb with hb | hb
        · exact (N3 _ (.head _)).2.1 hb
        · exact hoff _ hmo (List.mem_singleton.mp hb).symm
      · rcases List.mem_cons.mp hp with rfl | hp
        · refine ⟨hfl₆.1 _ _ (hideAll_get _ (N3 _ (.tail _ (.head _))).1 fun hb => ?_), (N3 _ (.tail _ (.head _))).2⟩
          rcases List.mem_cons.mp hb with hb | hb
          · exact (N3 _ (.tail _ (.head _))).2.1 hb
          · exact Nat.ne_of_gt l1 (List.mem_singleton.mp hb)
        · rw [List.mem_singleton.mp hp]
          exact ⟨hsl2, (N3 _ (.tail _ (.tail _ hmo))).2⟩
    have hLoI : ∀ p ∈ [(Lo, ({ oo with slots := sl2 } : Obj))], p.1 ≠ I := fun p hp => by
      rw [List.mem_singleton.mp hp]; exact hoff (Lo, { oo with slots := sl }) hmo
    clear F4 N3 F₅
    k_steps
    exact ⟨_, _, _, _, rfl, F₆, N₆, hLoI, sl2, .head _, ⟨rfl, trivial⟩⟩
  · clear F1 N1
    rintro m news h tk ⟨sl, hmo, hm⟩ F3 N3
    (try k_fold)
    k_steps
    exact ret _ _ sl F3.keep (N3 _ hmo).1
end
end
section
section
open PySem PySem.Spec PySem.Calls LCg
variable {prog : Program} {w : World} {A : Around} {E : Value → Shared → Prop} {s : Shared} {h₀ : Heap} {L : Addr} {m : Str → Option Value} {env : Env}
/-- a comprehension over a text -/
theorem comp_str {elt iter : Expr} {x : Str} {px : Pos} {scope : Scope} {cl : List (Str × Addr)} {pos : Pos} {Q : Value → Shared → Prop} (F₀ : Fr h₀ L s.heap m)
    (hclos : closureFor scope env = pure cl) (hcell : ∀ y ∈ scope.names, y.2 ≠ .cell) (hkind : scope.kind = .function)
    (hnames : ∀ y ∈ scope.names, y.2 = .local → scope.names.lookup y.1 = some .local) (hx : scope.names.lookup x = some .local)
    (h : wpAny (model prog w) A (eval iter env) (fun xv s₁ => ∃ xs t news, xv = .str xs t ∧ A.handled = none ∧ Fr h₀ L s₁.heap m ∧ News h₀ L s₁.heap news ∧ xs.cps.size ≤ 1000 ∧
      ∀ s₂ : Shared, (∃ h, s₂ = { s₁ with heap := h }) → CompRest prog w A h₀ L m env elt x scope cl s₂ (fun _ => True) (SignAt xs) (FinE h₀ L m s₂ Q) xs.cps.size 0 [] news) E s)
    (hs : ∀ x, foldedSetIterable iter env x = pure x := by intro _; rfl) :
    wpAny (model prog w) A (eval (.ListComp elt [⟨.Name x px, iter, [], 0⟩] scope pos) env) Q E s := by
  rw [eval_ListComp]
  refine wpAny_comprehension_free (use := none) rfl hs hclos hkind hnames (wpAny_mono h (fun xv s₁ h₁ => ?_) fun _ _ e => e)
  obtain ⟨xs, t, news, rfl, hh, F, N, hsz, R⟩ := h₁
  have key : ∀ (o : Obj) (St : Nat → Heap → Prop), Walks prog w A s₁.heap.objs.size [s₁.heap.objs.size] [s₁.heap.objs.size] xs.cps.size (SignAt xs) St → (∀ i h, St i h → ∃ o, h.get? s₁.heap.objs.size = some o) →
      (∀ i (h h' : Heap) (o : Obj), St i h → h.get? s₁.heap.objs.size = some o → h'.get? s₁.heap.objs.size = some o → St i h') → St 0 (s₁.heap.push o) →
      wpAny (model prog w) A (newList []) (fun acc s₃ => wpAny (model prog w) A (newFunctionEnv scope env.globals cl [] env.qual none .none (some env)) (fun cenv s₄ =>
        codeAny (model prog w) A (.compStart (.ListComp elt [⟨.Name x px, iter, [], 0⟩] scope pos) 0 (.ref s₁.heap.objs.size) acc { cenv with scope := relabel scope env })
          (compPost (model prog w) A E none Q acc cenv.locals) s₄) E s₃) E { s₁ with heap := s₁.heap.push o } := by
    intro o St W al fr st
    refine block_U (s₂ := { s₁ with heap := s₁.heap.push o }) (S := fun _ => True) (Fin := FinE h₀ L m { s₁ with heap := s₁.heap.push o } Q) W (by rw [sizeLine_eq]; omega) al (fun i h h' o nw hst e e' _ _ _ => fr i h h' o hst e e') hcell hkind hx st (fun b hb => ?_)
      (F.keeps fun _ _ e => Heap.get?_push_of_some _ e) (N.grown fun _ _ e => Heap.get?_push_of_some _ e) (Nat.ne_of_lt F.ns.lt) (next_is_new F) (fun p hp => Nat.ne_of_lt (Heap.lt_size (N p hp).1)) trivial (R _ ⟨_, rfl⟩) ?_
    · rw [List.mem_singleton.mp hb]
      show s₁.heap.objs.size < (s₁.heap.push _).objs.size
      rw [Heap.size_push]; exact Nat.lt_succ_self _
    · intro D C h' tk m' ys news' F' N' o1 hn hC₀ hD₀ hCL hDL hCD offC fin
      refine ⟨m', hn, fun h'' hs'' => fin D h'' tk (F'.change hs'' hCL hC₀) (fun p hp => ?_) o1⟩
      refine ⟨hs''.extBut _ _ ?_ (N' p hp).1, (N' p hp).2⟩
      rcases List.mem_cons.mp hp with rfl | hp
      · exact Ne.symm hCD
      · exact offC p hp
  cases ha : xs.cps.all (· < 128)
  · exact wpAny_pyIter_wide ha (key _ _ (Walks.strWide hh _ xs t) (fun i h ⟨o, ho, _⟩ => ⟨o, ho⟩) (fun i h h' o st e e' => by obtain ⟨o', q, r⟩ := st; rw [e] at q; cases q; exact ⟨_, e', r⟩) ⟨_, Heap.get?_push_size _ rfl, rfl, rfl⟩)
  · exact wpAny_pyIter_ascii ha (key _ _ (Walks.strAscii hh _ xs t) (fun i h ⟨o, ho, _⟩ => ⟨o, ho⟩) (fun i h h' o st e e' => by obtain ⟨o', q, r⟩ := st; rw [e] at q; cases q; exact ⟨_, e', r⟩) ⟨_, Heap.get?_push_size _ rfl, rfl, rfl⟩)
end
end
section
/-- where two ways of a value meet -/
def JEv (G : Heap) (L : Addr) (m : Str → Option Value) (P : Value → Led → Prop) (s : Shared) (v : Value) (s₂ : Shared) : Prop :=
  ∃ h tk news, s₂ = { s with heap := h, toks := tk } ∧ Fr G L h m ∧ News G L h news ∧ P v news
section
variable {prog : Program} {w : World} {A : Around} {s : Shared} {G : Heap} {L : Addr} {m : Str → Option Value} {news : Led} {t u : Tok} {E : Value → Shared → Prop} {Q : Value → Shared → Prop}
theorem min3 {n : Nat} (hh : A.handled = none) (F : Fr G L s.heap m) (N : News G L s.heap news)
    (h : ∀ h' tk t' (k : Nat), k ≤ 3 → Fr G L h' m → News G L h' news → Q (.int (k : Int) t') { s with heap := h', toks := tk }) :
    wpAny (model prog w) A (call (.builtin "min") [.int (n : Int) t, .int 3 u]) Q E s := by
  refine min_two_N hh F N fun h' tk F' N' => ?_
  by_cases c : (3 : Int) < (n : Int)
  · rw [if_pos c]; exact h h' tk _ 3 (Nat.le_refl _) F' N'
  · rw [if_neg c]; exact h h' tk _ n (by omega) F' N'
theorem max1 {k : Nat} (hk : k ≤ 3) (hh : A.handled = none) (F : Fr G L s.heap m) (N : News G L s.heap news)
    (h : ∀ h' tk t' (j : Nat), 1 ≤ j → j ≤ 3 → Fr G L h' m → News G L h' news → Q (.int (j : Int) t') { s with heap := h', toks := tk }) :
    wpAny (model prog w) A (call (.builtin "max") [.int 1 t, .int (k : Int) u]) Q E s := by
  refine max_two_N hh F N fun h' tk F' N' => ?_
  by_cases c : (k : Int) > (1 : Int)
  · rw [if_pos c]; exact h h' tk _ k (by omega) hk F' N'
  · rw [if_neg c]; exact h h' tk _ 1 (by omega) (by omega) F' N'
theorem join_eval {env : Env} {e : Expr} (_F₀ : Fr G L s.heap m) (P : Value → Led → Prop)
    (run : wpAny (model prog w) A (eval e env) (JEv G L m P s) (fun _ _ => False) s)
    (k : ∀ v news h tk, P v news → Fr G L h m → News G L h news → Q v { s with heap := h, toks := tk }) :
    wpAny (model prog w) A (eval e env) Q (fun _ _ => False) s :=
  wpAny_mono run (fun v s₂ hf => by obtain ⟨h, tk, news, rfl, F, N, hp⟩ := hf; exact k v news h tk hp F N) fun _ _ e => e
end
theorem fold_alpha {l : List Nat} (h : ∀ c ∈ l, c ∈ alpha) : ∀ c ∈ l.map foldC, c ∈ alpha := by
  intro c hc
  obtain ⟨d, hd, rfl⟩ := List.mem_map.mp hc
  have key : ∀ d ∈ alpha, foldC d ∈ alpha := by decide
  exact key d (h d hd)
theorem upTo_of {h h' : Heap} {L : Addr} {oo : Obj} {sl : Array (Option Value)} (ho : h.get? L = some oo) (k : Sub (hideAll h [L]) h') (e : h'.get? L = some { oo with slots := sl }) : h.UpToSlots h' := by
  intro b o eb hn
  by_cases hb : b = L
  · subst hb
    rw [ho] at eb
    cases eb
    exact ⟨sl, e⟩
  · exact ⟨o.slots, k b o (hideAll_get _ eb fun q => hb (List.mem_singleton.mp q))⟩
open PySem PySem.Spec PySem.Calls in
theorem below_law {G h : Heap} {L a : Addr} {m : Str → Option Value} {name : Str} {scope : Scope} {cd : Value} (F : Fr G L h m) (hk : scope.kind = .function := by rfl) :
    Below (callerA.deeper (envOf name scope L a cd)) (hideAll h [L]) [envOf name scope L a cd] h :=
  ⟨Around.frames_deeper rfl, hide_sub _ _, .cons (by show scope.kind ≠ .module; rw [hk]; decide) rfl F.ns (hideAll_none _ (.head _)) trivial⟩
theorem new_L {G h : Heap} {L : Addr} {m : Str → Option Value} (F : Fr G L h m) : G.get? L = none := by
  cases q : G.get? L with
  | none => rfl
  | some o => exact absurd (Nat.lt_of_lt_of_le (Heap.lt_size q) F.above) (Nat.lt_irrefl _)
theorem both_same {a b : Bool} {p : Prop} (ha : a = true ↔ p) (hb : b = true ↔ p) : b = a := by
  cases a <;> cases b <;> simp_all
theorem escS {x : Str} {t : Tok} (e : Nat) (h : x = ⟨#[e]⟩) : ∃ esc, EscIs esc (.str x t) := ⟨some e, by subst h; show ∃ u, _ = _; exact ⟨t, rfl⟩⟩
theorem escN : ∃ esc, EscIs esc .none := ⟨none, rfl⟩
theorem both_none {b : Bool} {o : Option (List PD)} {q : List PD → Prop} (h : b = true ↔ ∃ ps, o = some ps ∧ q ps) (e : o = none) : b = false := by
  cases b
  · rfl
  · obtain ⟨ps, h1, _⟩ := h.1 rfl
    rw [e] at h1; cases h1
theorem both_some {b c : Bool} {o : Option (List PD)} {ps : List PD} {q : List PD → Prop} (h : b = true ↔ ∃ ps, o = some ps ∧ q ps) (e : o = some ps) (hc : c = true ↔ q ps) : c = b := by
  refine both_same (p := q ps) ?_ hc
  rw [h, e]
  exact ⟨fun ⟨_, h1, h2⟩ => by cases h1; exact h2, fun h2 => ⟨_, rfl, h2⟩⟩
section
open PySem PySem.Spec PySem.Calls LCg
variable {prog : Program} {w : World} {A : Around} {E : Value → Shared → Prop} {s : Shared} {h₀ : Heap} {L : Addr} {m : Str → Option Value} {env : Env}
def StrSrc (prog : Program) (w : World) (A : Around) (h₀ : Heap) (L : Addr) (m : Str → Option Value) (env : Env) (elt : Expr) (x : Str) (scope : Scope) (cl : List (Str × Addr)) (Q : Value → Shared → Prop) (xv : Value) (s₁ : Shared) : Prop :=
  ∃ xs t news, xv = .str xs t ∧ A.handled = none ∧ Fr h₀ L s₁.heap m ∧ News h₀ L s₁.heap news ∧ xs.cps.size ≤ 1000 ∧
      ∀ s₂ : Shared, (∃ h, s₂ = { s₁ with heap := h }) → CompRest prog w A h₀ L m env elt x scope cl s₂ (fun _ => True) (SignAt xs) (FinE h₀ L m s₂ Q) xs.cps.size 0 [] news
theorem comp_str2 {elt iter : Expr} {x : Str} {px : Pos} {scope : Scope} {cl : List (Str × Addr)} {pos : Pos} {Q : Value → Shared → Prop} (F₀ : Fr h₀ L s.heap m)
    (hclos : closureFor scope env = pure cl) (hcell : ∀ y ∈ scope.names, y.2 ≠ .cell) (hkind : scope.kind = .function)
    (hnames : ∀ y ∈ scope.names, y.2 = .local → scope.names.lookup y.1 = some .local) (hx : scope.names.lookup x = some .local)
    (h : wpAny (model prog w) A (eval iter env) (StrSrc prog w A h₀ L m env elt x scope cl Q) E s)
    (hs : ∀ x, foldedSetIterable iter env x = pure x := by intro _; rfl) :
    wpAny (model prog w) A (eval (.ListComp elt [⟨.Name x px, iter, [], 0⟩] scope pos) env) Q E s :=
  comp_str F₀ hclos hcell hkind hnames hx h hs
end
theorem halt_at {M : Model} {A : Around} {E : Value → Shared → Prop} {s : Shared} {Q : Value → Shared → Prop} {r : Addr} {ps : List Value} {kw : List (Str × Value)} (_hr : [132, 104, 125, 179, 191, 198, 205].contains (show Nat from r) = true) (h : Halt (wpAny M A (call (.ref r) ps kw) Q E s)) : wpAny M A (call (.ref r) ps kw) Q E s := h.out
theorem UpdF.get {G h : Heap} {L src : Addr} {o : Obj} {news : Led} {g : Obj → Led} (U : UpdF src o news g) (N : News G L h news) : h.get? src = some o ∧ src ≠ L ∧ G.get? src = none := by
  obtain ⟨pre, post, rfl, _⟩ := U.split
  exact N (src, o) (List.mem_append.mpr (.inr (.head _)))
theorem fr_updF {G h h' : Heap} {L src : Addr} {m : Str → Option Value} {o o' : Obj} {news : Led} {g : Obj → Led} (F : Fr G L h m) (N : News G L h news) (U : UpdF src o news g) (k : KeepBut src h h') (hs : h'.get? src = some o') :
    Fr G L h' m ∧ News G L h' (g o') := by
  obtain ⟨_, hsL, hsG⟩ := UpdF.get U N
  obtain ⟨pre, post, rfl, e, h1, h2⟩ := U.split
  obtain ⟨oL, es, ep, hn, r⟩ := F.ns
  rw [e]
  refine ⟨⟨⟨oL, es, ep, k _ _ (fun e => hsL e.symm) hn, r⟩, fun b o e => k _ _ (fun q => by rw [q, hsG] at e; cases e) (F.keep _ _ e), F.above⟩, fun p hp => ?_⟩
  rcases List.mem_append.mp hp with q | q
  · have P := N p (List.mem_append_left _ q); exact ⟨k _ _ (h1 p q) P.1, P.2⟩
  · rcases List.mem_cons.mp q with rfl | q
    · exact ⟨hs, hsL, hsG⟩
    · have P := N p (List.mem_append_right _ (.tail _ q)); exact ⟨k _ _ (h2 p q) P.1, P.2⟩
section
variable {w : World} {A : Around} {s : Shared} {G : Heap} {L src : Addr} {m : Str → Option Value} {news : Led} {g : Obj → Led} {a b : Int} {ta tb tx : Tok} {n : Nat} {x : Str} {Q : Value → Shared → Prop} {E : Value → Shared → Prop}
theorem text_F (am : Amb w G) (ok : Ok 4 A) (hab : SrcOk a b) (F : Fr G L s.heap m) (N : News G L s.heap news) (U : UpdF src (srcObj a b ta tb n) news g)
    (ret : ∀ h' tk x tx a' b' ta' tb' n', KeepBut src s.heap h' → h'.get? src = some (srcObj a' b' ta' tb' n') → SrcOk a' b' → x.cps.size ≤ 6 → (∀ c ∈ x.cps.toList, c ∈ alpha) → Fr G L h' m → News G L h' (g (srcObj a' b' ta' tb' n')) → Q (.str x tx) { s with heap := h', toks := tk }) :
    wpAny (model PySem.Challenge.rw_nt0095_01.row.prog w) A (call (.ref 151) [.ref src] []) Q E s :=
  text_spec am F.keep (UpdF.get U N).2.2 (UpdF.get U N).1 hab ok fun _ _ _ _ _ _ _ _ _ kb hs h1 h2 h3 => ret _ _ _ _ _ _ _ _ _ kb hs h1 h2 h3 (fr_updF F N U kb hs).1 (fr_updF F N U kb hs).2
theorem likepat_F (am : Amb w G) (ok : Ok 3 A) (hab : SrcOk a b) (F : Fr G L s.heap m) (N : News G L s.heap news) (U : UpdF src (srcObj a b ta tb n) news g) (hx : x.cps.size ≤ 6)
    (ret : ∀ h' tk y ty a' b' ta' tb' n', KeepBut src s.heap h' → h'.get? src = some (srcObj a' b' ta' tb' n') → SrcOk a' b' → y.cps.size ≤ 200 → Fr G L h' m → News G L h' (g (srcObj a' b' ta' tb' n')) → Q (.str y ty) { s with heap := h', toks := tk }) :
    wpAny (model PySem.Challenge.rw_nt0095_01.row.prog w) A (call (.ref 158) [.ref src, .str x tx] []) Q E s :=
  likepat_spec am F.keep (UpdF.get U N).2.2 (UpdF.get U N).1 hab hx ok fun _ _ _ _ _ _ _ _ _ kb hs h1 h2 => ret _ _ _ _ _ _ _ _ _ kb hs h1 h2 (fr_updF F N U kb hs).1 (fr_updF F N U kb hs).2
theorem globpat_F (am : Amb w G) (ok : Ok 3 A) (hab : SrcOk a b) (F : Fr G L s.heap m) (N : News G L s.heap news) (U : UpdF src (srcObj a b ta tb n) news g) (hx : x.cps.size ≤ 6)
    (ret : ∀ h' tk y ty a' b' ta' tb' n', KeepBut src s.heap h' → h'.get? src = some (srcObj a' b' ta' tb' n') → SrcOk a' b' → y.cps.size ≤ 300 → Fr G L h' m → News G L h' (g (srcObj a' b' ta' tb' n')) → Q (.str y ty) { s with heap := h', toks := tk }) :
    wpAny (model PySem.Challenge.rw_nt0095_01.row.prog w) A (call (.ref 165) [.ref src, .str x tx] []) Q E s :=
  globpat_spec am F.keep (UpdF.get U N).2.2 (UpdF.get U N).1 hab hx ok fun _ _ _ _ _ _ _ _ _ kb hs h1 h2 => ret _ _ _ _ _ _ _ _ _ kb hs h1 h2 (fr_updF F N U kb hs).1 (fr_updF F N U kb hs).2
end
end
section
section
local macro_rules | `(tactic| walk_at "call builtin:min") => `(tactic| (k_here; refine halt_intro ?_))
local macro_rules | `(tactic| walk_at "call builtin:max") => `(tactic| (k_here; refine halt_intro ?_))
local macro_rules | `(tactic| walk_at "pyIter ref") => `(tactic| (k_here; refine halt_intro ?_))
local macro_rules | `(tactic| walk_at "eval IfExp") => `(tactic| (k_here; refine halt_intro ?_))
local macro_rules | `(tactic| walk_at "exec If") => `(tactic| (k_here; (with_reducible show wpAny _ _ (exec (Stmt.If (Expr.Compare _ _ _ _) _ _ _) _) _ _ _); refine halt_intro ?_))
local macro_rules | `(tactic| walk_at "call ref") => `(tactic| (k_here; refine halt_at (by decide) ?_))
local macro_rules | `(tactic| walk_at "call ref") => `(tactic| (k_here; (with_reducible show wpAny _ _ (call (Value.ref 172) [Value.str (Str.mk _) _] _) _ _ _); (rename Fr _ _ _ _ => F9); (rename News _ _ _ _ => N9); (k_dflt (refine' foldL_spec ?am ?ok ?_; (case am => exact Amb.up (by assumption) F9.keep); (case ok => (refine Ok.low ‹Ok _ _› ?_; decide)))); intro h' tk' t1' hs'; (have F' := F9.keeps hs'); (have N' := N9.grown hs'); clear F9 N9))
local macro_rules | `(tactic| walk_at "call ref") => `(tactic| (k_here; (k_dflt ((first | refine' text_F ?am ?ok ?hab ?F ?N ?U ?_ | refine' likepat_F ?am ?ok ?hab ?F ?N ?U ?hx ?_ | refine' globpat_F ?am ?ok ?hab ?F ?N ?U ?hx ?_); (case F => k_asm); (case N => k_asm); (case U => k_updF); (case am => assumption); (case hab => assumption); (try (case hx => assumption)); (case ok => (refine Ok.low ‹Ok _ _› ?_; decide)))); intros; (rename News _ _ _ _ => N'); (try dsimp only at N'); (try k_sweep)))
local macro_rules | `(tactic| k_qdec) => `(tactic| decide +kernel)
theorem lawT : PySem.Challenge.rw_nt0095_01.Holds := hd (by
  k_go0
  (all_goals try k_fold)
  k_steps
  refine halt_intro' (wpAny_noRaise ?_)
  rename_i w s0 s1 mg mb Gr Y fa o pm doc kV ho hg KX X V GL T B TE TW b9 b8 M cd b6 hcd zs hs hlay0 hL1 hr hl2 w4 w3 r vs wl hL hRA hW hR hI hRW hcond hTr K0 hD h1 F N
  refine join_at (G := s1.heap) (L := s1.heap.objs.size) (fun m news => True) ?jrun ?jk
  case jk =>
    intro m news h tk _ F2 N2
    clear F N
    (try k_fold)
    k_steps
  case jrun =>
    have am : Amb w s1.heap := ⟨KX, _, _, _, _, topRead_of T⟩
    have okc : Ok 8 callerA := ⟨rfl, by decide, by decide⟩
    clear Gr Y ho hg X V GL B TE TW M hcd hs hlay0 hL1 hr hl2 hRA hW hR hRW hTr hD K0
    have X := KX
    replace T := topRead_of T
    clear KX
    refine forF s1.heap rfl rfl ?_
    (try k_fold)
    k_steps
    refine halt_intro' (min3 rfl F N (fun h' tk t' k hk F2 N2 => ?_))
    clear F N
    k_steps
    refine halt_intro' (max1 hk rfl F2 N2 (fun h' tk t' j hj1 hj3 F3 N3 => ?_))
    clear F2 N2
    k_steps
    (rename Fr _ _ _ _ => F4); (rename News _ _ _ _ => N4); (rename IsRange _ _ _ _ _ _ _ _ => hr4)
    refine halt_intro' ?_
    refine loop_range (n := j) rfl hr4 rfl (by omega) F4 (news₀ := []) (fun _ hp => nomatch hp) (fun i m news => news = [] ∧ Has m [(Str.ofString "script", .ref r)]) ⟨rfl, rfl, trivial⟩ ?_ ?_
    · clear hr4 F4 N4
      rintro i ti m news h tk I1 oI1 hi ⟨rfl, hm⟩ hoff hlt F5 N5
      clear hoff hlt
      have hm2 : Has (fun y => if y = Str.ofString "k" then some (Value.int (i : Int) ti) else m y) [(Str.ofString "script", .ref r), (Str.ofString "k", .int (i : Int) ti)] := ⟨hm.1, rfl, trivial⟩
      have F6 := frMany hm2 F5
      clear F5
      (try k_fold)
      k_steps
      refine halt_intro' (pool_spec (by exact am.up F6.keep) (by exact okc.low (by decide)) (by exact hL.at fun o e => F6.keep r o e) hI (by have := hI.length; omega) (by omega) (fun h' tk' src a b ta tb n hsub hsrc hnone hab => ?_))
      have F7 := F6.keeps hsub
      have N7 : News s1.heap s1.heap.objs.size h' [(I1, oI1), (src, srcObj a b ta tb n)] := News.app (N5.grown hsub) (news_of_new F6 (fun p hp => by rw [List.mem_singleton.mp hp]; exact ⟨hsrc, hnone⟩))
      have hne : @Ne Nat I1 src := fun e => by
        have := (N5 _ (.head _)).1
        rw [show I1 = src from e, hnone] at this
        cases this
      clear F6 N5 hsub hsrc hnone hm2
      k_steps
      refine halt_intro' ?_
      refine forF s1.heap rfl rfl ?_
      (try k_fold)
      k_steps
      (rename Fr _ _ _ _ => F8); (rename News _ _ _ _ => N8); (rename IsRange _ _ _ _ _ _ _ _ => hr8)
      refine halt_intro' ?_
      refine loop_range (n := 3) rfl hr8 rfl (by decide) F8 N8 (fun jj m news => ∃ a b ta tb n, SrcOk a b ∧ news = [(I1, oI1), (src, srcObj a b ta tb n)] ∧ Has m [(Str.ofString "script", .ref r), (Str.ofString "source", .ref src)] ∧ (jj = 0 ∨ ∃ x t, m (Str.ofString "text") = some (.str x t)))
        ⟨a, b, ta, tb, n, hab, rfl, ⟨rfl, rfl, trivial⟩, .inl rfl⟩ ?_ ?_
      · clear hr8 F8 N8 hab hm
        rintro jj tj m news h tk I2 oI2 hj ⟨a, b, ta, tb, n, hab, rfl, hm, -⟩ hoff hlt F10 N10
        have l1 : @LT.lt Nat _ I1 I2 := hlt (I1, _) (.head _)
        have l2 : @LT.lt Nat _ src I2 := hlt (src, _) (.tail _ (.head _))
        clear hlt hoff
        have hm2 : Has (fun y => if y = Str.ofString "turn" then some (Value.int (jj : Int) tj) else m y) [(Str.ofString "script", .ref r), (Str.ofString "source", .ref src), (Str.ofString "turn", .int (jj : Int) tj)] := ⟨hm.1, hm.2.1, rfl, trivial⟩
        have F11 := frMany hm2 F10
        clear F10 hm2 hm
        (try k_fold)
        k_steps
        rename_i x tx a2 b2 ta2 tb2 n2 _ _ hab2 hx hal Fz Nz _ F12 N12 _ _
        clear Fz Nz
        refine halt_intro' (join_eval F12 (fun v news => ∃ y t a b ta tb n, v = .str y t ∧ y.cps.size ≤ 6 ∧ SrcOk a b ∧ news = [(I2, oI2), (I1, oI1), (src, srcObj a b ta tb n)]) ?_ ?_)
        · refine IfExp_ ?_
          (try k_fold)
          k_steps
          all_goals
            (rename SrcOk _ _ => hab'); (rename Fr _ _ _ _ => F'); (rename News _ _ _ _ => N')
            exact ⟨_, _, _, rfl, F', N', _, _, _, _, _, _, _, rfl, by assumption, hab', rfl⟩
        clear F12 N12 hab hab2
        rintro v news h tk ⟨y, ty, a, b, ta, tb, n, rfl, hy, hab, rfl⟩ F13 N13
        k_steps
        rename_i ev a b ta tb n _ _ _ hab4 hev F14 N14
        obtain ⟨esc, hesc⟩ : ∃ esc, EscIs esc ev := AllV.get (P := fun v => ∃ esc, EscIs esc v) (by exact ⟨escN, escN, escS 92 lit_bs, escS 97 lit_a, trivial⟩) hev
        have N15 : News _ _ _ [(I2, oI2), (I1, oI1), (src, srcObj a b ta tb n)] := News.drop N14
        clear hab hev N14
        refine halt_intro' ?_
        k_steps
        refine halt_intro' ?_
        (rename Fr _ _ _ _ => F16); (rename News _ _ _ _ => N16)
        refine comp_str2 F16 (by with_unfolding_all rfl) (by decide) (by rfl) (by decide) (by rfl) ?_
        (try k_fold)
        k_steps
        (rename Fr _ _ _ _ => F17); (rename News _ _ _ _ => N17)
        refine ⟨x, _, _, rfl, rfl, F17, N17, by omega, fun s₂ hs => ?_⟩
        obtain ⟨h17, rfl⟩ := hs
        refine rest_inv (fun i ys nw => nw = [(I2, oI2), (I1, oI1), (src, srcObj a b ta tb n)] ∧ ys.length = i ∧ StrsAre ys ((x.cps.toList.take i).map fun c => ⟨#[foldC c]⟩)) ⟨rfl, rfl, .nil⟩ ?_ ?_
        · clear F17 N17
          rintro ii v ys nw I oI C oC D m₂ h3 tk3 E' hii ⟨c, u, hc, rfl⟩ ⟨rfl, hl, hys⟩ hC hx3 F18 N18 off ne
          have hcl : x.cps.toList[ii]? = some c := by rw [Array.getElem?_toList]; exact hc
          (try k_fold)
          k_steps
          have off9 := off
          simp only [LCg.Off3, and_true] at off9
          obtain ⟨⟨_, _, _⟩, ⟨_, _, _⟩, _, _, _⟩ := off9
          k_steps
          · simp [hl]
          · rw [takeSnoc hcl, List.map_append]; exact strsAre_snoc hys
        clear F17 N17
        rintro ys nw ⟨rfl, hl, hys⟩
        intro D h3 tk3 F18 N18 o3
        simp only [LCg.Off1, and_true] at o3
        (try k_fold)
        k_steps
        refine join_chars foldC x.cps.toList N18 (.head _) (by rw [List.take_of_length_le (by simp)] at hys; exact hys) (by simp; omega) lit_e (fun t' kk => ?_)
        obtain ⟨sm, hsm⟩ : ∃ sm : Str, (⟨(x.cps.toList.map foldC).toArray⟩ : Str) = sm := ⟨_, rfl⟩
        have hsmL : sm.cps.toList = x.cps.toList.map foldC := by rw [← hsm]
        have hsmS : sm.cps.size = x.cps.size := by rw [← hsm]; simp
        rw [hsm]
        clear hsm hys hl
        k_steps
        refine halt_intro' ?_
        have halS : ∀ c ∈ sm.cps.toList, c ∈ alpha := by rw [hsmL]; exact fold_alpha hal
        refine join_at (G := s1.heap) (L := s1.heap.objs.size) (fun m news => news = [(I2, oI2), (I1, oI1), (src, srcObj a b ta tb n)] ∧ Has m [(Str.ofString "script", .ref r), (Str.ofString "source", .ref src), (Str.ofString "text", .str x tx)]) ?_ ?_
        · refine wpAny_If ?_
          (rename Fr _ _ _ _ => F20); (rename News _ _ _ _ => N20)
          have N21 : News _ _ _ [(I2, oI2), (I1, oI1), (src, srcObj a b ta tb n)] := News.drop N20
          clear N20
          (try k_fold)
          k_steps
          refine halt_intro' (like_spec hesc (by exact am.up F20.keep) (by exact okc.low (by decide)) (by omega) (by omega) (fun h' tk' bb hsub hbb => ?_))
          have F22 := F20.keeps hsub
          have N22 := N21.grown hsub
          clear F20 N21 hsub
          k_steps
          (rename Fr _ _ _ _ => F23); (rename News _ _ _ _ => N23)
          refine halt_intro' (lawLike_spec hesc (by exact am.up F23.keep) (by exact okc.low (by decide)) (by omega) (fun h2 tk2 v tl hsub hnew hres => ?_))
          have F24 := F23.keeps hsub
          have N24 := N23.grown hsub
          have hst : Stands h2 tl := fun p hp => (hnew p hp).1
          clear F23 N23 hsub hnew
          cases hlp : likeP esc _ with
          | none =>
            rw [hlp] at hres
            cases (show v = .none from hres)
            k_steps
            (rename Fr _ _ _ _ => F25); (rename News _ _ _ _ => N25)
            refine halt_intro' (fitsN_spec (by exact am.up F25.keep) (by exact okc.low (by decide)) (fun h3 tk3 hsub => ?_))
            have F26 := F25.keeps hsub
            have N26 := N25.grown hsub
            cases both_none hbb hlp
            clear F25 N25 hsub
            k_steps
            exact ⟨rfl, _, _, _, _, rfl, F26, N26, rfl, ⟨rfl, rfl, rfl, trivial⟩⟩
          | some ps =>
            rw [hlp] at hres
            obtain ⟨r2, vs2, n2, rfl, hr2, hvs2⟩ := (show ∃ r vs n, v = .ref r ∧ (r, listOf vs.toArray n) ∈ tl ∧ All2 (LawAt tl) vs ps from hres)
            have hpl := likeP_length _ _ (Nat.le_refl _) _ hlp
            have hvl := hvs2.length
            simp only [Array.length_toList] at hpl
            k_steps
            (rename Fr _ _ _ _ => F25); (rename News _ _ _ _ => N25)
            refine halt_intro' (fits_spec (by exact am.up F25.keep) (by exact okc.low (by decide)) (by exact hst) hr2 hvs2 (by omega) (by omega) halS (fun h3 tk3 bc hsub hbc => ?_))
            have F26 := F25.keeps hsub
            have N26 := N25.grown hsub
            rw [hsmL] at hbc
            cases both_some hbb hlp hbc
            clear F25 N25 hsub
            k_steps
            · exact absurd ‹(_ != _) = true› (by simp)
            · exact ⟨rfl, _, _, _, _, rfl, F26, N26, rfl, ⟨rfl, rfl, rfl, trivial⟩⟩
        clear hsmL hsmS halS hy hesc
        (rename Fr _ _ _ _ => Fz); (rename News _ _ _ _ => Nz)
        clear Fz Nz
        rintro m news h tk ⟨rfl, hm⟩ F30 N30
        have F31 := frMany hm F30
        clear F30 hm
        (try k_fold)
        k_steps
        (rename Fr _ _ _ _ => F32); (rename News _ _ _ _ => N32)
        refine halt_intro' (join_eval F32 (fun v news => ∃ y t a b ta tb n, v = .str y t ∧ y.cps.size ≤ 6 ∧ SrcOk a b ∧ news = [(I2, oI2), (I1, oI1), (src, srcObj a b ta tb n)]) ?_ ?_)
        · refine IfExp_ ?_
          (try k_fold)
          k_steps
          all_goals
            (rename SrcOk _ _ => hab'); (rename Fr _ _ _ _ => F'); (rename News _ _ _ _ => N')
            exact ⟨_, _, _, rfl, F', N', _, _, _, _, _, _, _, rfl, by assumption, hab', rfl⟩
        clear F32 N32 hab4
        rintro v news h tk ⟨y, ty, a, b, ta, tb, n, rfl, hy, hab, rfl⟩ F33 N33
        k_steps
        rename_i a b ta tb n _ _ hab4 hgp _ F34 N34
        refine halt_intro' ?_
        refine join_at (G := s1.heap) (L := s1.heap.objs.size) (fun m news => news = [(I2, oI2), (I1, oI1), (src, srcObj a b ta tb n)] ∧ Has m [(Str.ofString "script", .ref r), (Str.ofString "source", .ref src), (Str.ofString "text", .str x tx)]) ?_ ?_
        · refine wpAny_If ?_
          (try k_fold)
          k_steps
          (rename Fr _ _ _ _ => F35); (rename News _ _ _ _ => N35)
          refine halt_intro' (glob_spec (by exact am.up F35.keep) (by exact okc.low (by decide)) (by omega) (by omega) (fun h' tk' bb o1 hsub hg1 hbb => ?_))
          have F36 := F35.keeps hsub
          have N36 := N35.grown hsub
          clear F35 N35 hsub
          k_steps
          (rename Fr _ _ _ _ => F37); (rename News _ _ _ _ => N37)
          refine halt_intro' (lawGlob_spec (by exact am.up F37.keep) (by exact okc.low (by decide)) (by omega) (fun h2 tk2 v tl o2 hsub hnew hg2 hpl hres => ?_))
          have F38 := F37.keeps hsub
          have N38 := N37.grown hsub
          have hst : Stands h2 tl := fun p hp => (hnew p hp).1
          cases globR_fun hg2 _ hg1
          clear F37 N37 hsub hnew hg2
          cases o1 with
          | none =>
            cases (show v = .none from hres)
            k_steps
            (rename Fr _ _ _ _ => F39); (rename News _ _ _ _ => N39)
            refine halt_intro' (fitsN_spec (by exact am.up F39.keep) (by exact okc.low (by decide)) (fun h3 tk3 hsub => ?_))
            have F40 := F39.keeps hsub
            have N40 := N39.grown hsub
            cases both_none hbb rfl
            clear F39 N39 hsub
            k_steps
            exact ⟨rfl, _, _, _, _, rfl, F40, N40, rfl, ⟨rfl, rfl, rfl, trivial⟩⟩
          | some ps =>
            obtain ⟨r2, vs2, n2, rfl, hr2, hvs2⟩ := (show ∃ r vs n, v = .ref r ∧ (r, listOf vs.toArray n) ∈ tl ∧ All2 (LawAt tl) vs ps from hres)
            have hpl2 := hpl _ rfl
            have hvl := hvs2.length
            k_steps
            (rename Fr _ _ _ _ => F39); (rename News _ _ _ _ => N39)
            refine halt_intro' (fits_spec (by exact am.up F39.keep) (by exact okc.low (by decide)) (by exact hst) hr2 hvs2 (by omega) (by omega) hal (fun h3 tk3 bc hsub hbc => ?_))
            have F40 := F39.keeps hsub
            have N40 := N39.grown hsub
            cases both_some hbb rfl hbc
            clear F39 N39 hsub
            k_steps
            · exact absurd ‹(_ != _) = true› (by simp)
            · exact ⟨rfl, _, _, _, _, rfl, F40, N40, rfl, ⟨rfl, rfl, rfl, trivial⟩⟩
        clear F34 N34
        rintro m news h tk ⟨rfl, hm⟩ F41 N41
        refine wpAny_execs_nil ?_
        exact ⟨_, _, _, _, rfl, F41, N41, fun p hp => by
          rcases List.mem_cons.mp hp with rfl | hp
          · exact Nat.ne_of_lt l1
          · rw [List.mem_singleton.mp hp]; exact Nat.ne_of_lt l2, a, b, ta, tb, n, hab4, rfl, ⟨hm.1, hm.2.1, trivial⟩, .inr ⟨_, _, hm.2.2.1⟩⟩
      · clear hr8 F8 N8 hab hm
        rintro m news h tk ⟨a, b, ta, tb, n, hab, rfl, hm, hx⟩ F50 N50
        obtain ⟨x, tx, hx⟩ : ∃ x t, m (Str.ofString "text") = some (.str x t) := hx.resolve_left (by decide)
        have hm2 : Has m [(Str.ofString "script", .ref r), (Str.ofString "text", .str x tx)] := ⟨hm.1, hx, trivial⟩
        have F51 := frMany hm2 F50
        clear F50
        (try k_fold)
        k_steps
        (rename Fr _ _ _ _ => F52); (rename News _ _ _ _ => N52)
        have hns := F52.ns
        obtain ⟨oL, es, ep, hoL, hdL, -⟩ := hns
        have hnL : s1.heap.get? s1.heap.objs.size = none := new_L F52
        have N53 : ∀ p ∈ [(I1, oI1), (src, srcObj a b ta tb n)], p.1 ≠ s1.heap.objs.size := fun p hp => (N52 p hp).2.1
        refine halt_intro' (escapes_spec (oo := oL) (by exact below_law F52) (by rfl) (by exact hoL) (by intro vs e; rw [hdL] at e; cases e) (by exact hideAll_none _ (.head _)) (by exact Nat.le_of_eq (hideAll_size _ _)) (by exact amb_hide am F52.keep (fun q hq => by rw [List.mem_singleton.mp hq]; exact hnL)) (by exact okc.low (by decide)) (fun h' tk' sl hsub hLs => ?_))
        have F54 := F52.of_stays (fun q o e => hsub q o (hideAll_get _ (F52.keep q o e) fun hq => by rw [List.mem_singleton.mp hq, hnL] at e; cases e)) (upTo_of hoL hsub hLs)
        have N54 : News s1.heap s1.heap.objs.size h' [(I1, oI1), (src, srcObj a b ta tb n)] := fun p hp => ⟨hsub _ _ (hideAll_get _ (N52 p hp).1 fun hq => N53 p hp (List.mem_singleton.mp hq)), (N52 p hp).2⟩
        clear F52 N52 hsub hLs hoL hdL
        k_steps
        (rename Fr _ _ _ _ => F55); (rename News _ _ _ _ => N55)
        exact ⟨_, _, _, [], rfl, F55, fun p hp => by rw [List.mem_singleton.mp hp]; exact N55 _ (.head _), (fun _ hp => nomatch hp), rfl, ⟨rfl, trivial⟩⟩
    · rintro m news h tk ⟨rfl, hm⟩ F60 N60
      exact ⟨rfl, _, _, _, _, rfl, F60, N60, trivial⟩)
end
end
end Mine
theorem PySem.Challenge.cw_nt0095_01_holds : PySem.Challenge.rw_nt0095_01.Holds := by
  exact Mine.lawT
