import PyProof.Rows.All
import Wide.All
import OpenK.AllK
import Wide.FinOn
import KE.KTryDeepN
import KE.KWhile
import Lean
import PySem.Challenge.RW_pb0478_01
open PySem PySem.Spec PySem.Calls PySem.W PyProof.Rows
set_option Elab.async false
set_option autoImplicit false
set_option linter.unusedVariables false
set_option linter.unusedSimpArgs false
namespace Mine
/- the head: what the text's top leaves -/
noncomputable abbrev Pz : Program := PySem.Challenge.rw_pb0478_01.row.toRowW.1
noncomputable def sN (l : List Stmt) (k : Nat) : Stmt := match l.drop k with
  | s :: _ => s
  | [] => .Pass ⟨0, 0, 0, 0⟩
noncomputable def sAt (k : Nat) : Stmt := sN PySem.Challenge.pw_pb0478_01.main.body k
noncomputable def mAt (k j : Nat) : Stmt := match sAt k with
  | .ClassDef _ _ _ b _ _ _ _ _ _ _ => sN b j
  | s => s
noncomputable def fA : Stmt → Arguments
  | .FunctionDef _ a _ _ _ _ _ _ _ _ => a
  | _ => { posonlyargs := [], args := [], vararg := none, kwonlyargs := [], kw_defaults := [], kwarg := none, defaults := [] }
noncomputable def fB : Stmt → List Stmt
  | .FunctionDef _ _ b _ _ _ _ _ _ _ => b
  | _ => []
noncomputable def fS : Stmt → Scope
  | .FunctionDef _ _ _ _ _ _ s _ _ _ => s
  | _ => { kind := .function, names := [], isGenerator := false, isCoroutine := false }
noncomputable abbrev lit3 {A : Arguments} {B : List Stmt} {S : Scope} {a : Arguments} {b : List Stmt} {s : Scope} (_ : A = a) (_ : B = b) (_ : S = s) (f : Arguments → List Stmt → Scope → Obj) : Obj := f a b s
set_option maxRecDepth 100000
noncomputable def o43 : Params → Obj := fun P => { cls := Value.type "tuple", data := Data.seq #[] }
noncomputable def o44 : Params → Obj := fun P => { cls := Value.none, data := Data.fields #[] }
noncomputable def o45 : Params → Obj := fun P => { cls := Value.type "code", data := Data.fields #[Value.str (Str.ofString "<module>") 182, Value.str (Str.ofString "<module>") 183, Value.str (Str.ofString "/claim/cut.py") 184, Value.int 1 0, Value.int 0 0, Value.int 0 0, Value.int 0 0, Value.int 0 0, Value.ref 11, Value.bool false, Value.int 181 0, Value.ref 12, Value.none, Value.none, Value.none, Value.none, Value.int 185 0, Value.int 1 0, Value.str (Str.ofString "/claim/cut.py") 186] }
noncomputable def o46 : Params → Obj := fun P => { cls := Value.type "frame", slots := #[some (Value.ref 13), some (Value.ref 3), some (Value.ref 3), none, some (Value.str (Str.ofString "__main__") 164), none, some (Value.ref 0)] }
noncomputable def o47 : Params → Obj := fun P => { cls := Value.none, data := Data.dict #[{ hash := PyData.keyHash P (Str.ofString "type.__subclasses__.Exception.0"), key := Value.str (Str.ofString "type.__subclasses__.Exception.0") 232, val := Value.int 46 0 }, { hash := PyData.keyHash P (Str.ofString "type.__subclasses__.Exception.n"), key := Value.str (Str.ofString "type.__subclasses__.Exception.n") 233, val := Value.int 1 0 }] 2 }
noncomputable def o48 : Params → Obj := fun P => { cls := Value.type "dict", data := Data.dict #[{ hash := PyData.keyHash P (Str.ofString "__name__"), key := Value.str (Str.ofString "__name__") 165, val := Value.str (Str.ofString "paperhold.decimals") 252 }, { hash := PyData.keyHash P (Str.ofString "__doc__"), key := Value.str (Str.ofString "__doc__") 166, val := Value.none }, { hash := PyData.keyHash P (Str.ofString "__package__"), key := Value.str (Str.ofString "__package__") 167, val := Value.none }, { hash := PyData.keyHash P (Str.ofString "__loader__"), key := Value.str (Str.ofString "__loader__") 168, val := Value.builtin "__main__.__loader__#opaque" }, { hash := PyData.keyHash P (Str.ofString "__spec__"), key := Value.str (Str.ofString "__spec__") 169, val := Value.none }, { hash := PyData.keyHash P (Str.ofString "__annotations__"), key := Value.str (Str.ofString "__annotations__") 170, val := Value.ref 6 }, { hash := PyData.keyHash P (Str.ofString "__builtins__"), key := Value.str (Str.ofString "__builtins__") 171, val := Value.ref 4 }, { hash := PyData.keyHash P (Str.ofString "__file__"), key := Value.str (Str.ofString "__file__") 173, val := Value.str (Str.ofString "/claim/cut.py") 172 }, { hash := PyData.keyHash P (Str.ofString "__cached__"), key := Value.str (Str.ofString "__cached__") 174, val := Value.none }, { hash := PyData.keyHash P (Str.ofString "_wall"), key := Value.str (Str.ofString "_wall") 193, val := Value.ref 21 }, { hash := PyData.keyHash P (Str.ofString "PaperError"), key := Value.str (Str.ofString "PaperError") 235, val := Value.ref 46 }, { hash := PyData.keyHash P (Str.ofString "PaintFault"), key := Value.str (Str.ofString "PaintFault") 251, val := Value.ref 59 }] 12 }
noncomputable def o49 : Params → Obj := fun P => { cls := Value.none, data := Data.fields #[Value.int 1 0, Value.int 0 0, Value.ref 20, Value.int 5 0, Value.int 0 0, Value.ref 27, Value.int 14 0, Value.int 0 0, Value.ref 55] }
noncomputable def o50 : Params → Obj := fun P => { cls := Value.type "tuple", data := Data.seq #[] }
noncomputable def o51 : Params → Obj := fun P => { cls := Value.none, data := Data.fields #[] }
noncomputable def o52 : Params → Obj := fun P => { cls := Value.type "tuple", data := Data.seq #[Value.str (Str.ofString "k") 190] }
noncomputable def o53 : Params → Obj := fun P => { cls := Value.type "tuple", data := Data.seq #[] }
noncomputable def o54 : Params → Obj := fun P => lit3 (A := fA (sAt 0)) (B := fB (sAt 0)) (S := fS (sAt 0)) (by conv => lhs; whnf) (by conv => lhs; whnf) (by conv => lhs; whnf) fun a b s => { cls := Value.none, data := Data.func { name := Str.ofString "_wall", qualname := Str.ofString "_wall", params := a, body := FuncBody.stmts b, scope := s, globals := 0, closure := [], defaults := Value.none, kwdefaults := Value.none } }
noncomputable def o55 : Params → Obj := fun P => { cls := Value.type "code", data := Data.fields #[Value.str (Str.ofString "_wall") 187, Value.str (Str.ofString "_wall") 188, Value.str (Str.ofString "/claim/cut.py") 189, Value.int 1 0, Value.int 1 0, Value.int 0 0, Value.int 0 0, Value.int 3 0, Value.ref 15, Value.bool true, Value.int 181 0, Value.ref 16, Value.none, Value.ref 17, Value.ref 18, Value.ref 19, Value.int 191 0, Value.int 1 0, Value.str (Str.ofString "/claim/cut.py") 192] }
noncomputable def o56 : Params → Obj := fun P => lit3 (A := fA (sAt 0)) (B := fB (sAt 0)) (S := fS (sAt 0)) (by conv => lhs; whnf) (by conv => lhs; whnf) (by conv => lhs; whnf) fun a b s => { cls := Value.type "function", data := Data.func { name := Str.ofString "_wall", qualname := Str.ofString "_wall", params := a, body := FuncBody.stmts b, scope := s, globals := 3, closure := [], defaults := Value.none, kwdefaults := Value.none, pyModule := Value.str (Str.ofString "__main__") 164, code := Value.ref 20 } }
noncomputable def o57 : Params → Obj := fun P => { cls := Value.type "tuple", data := Data.seq #[Value.type "Exception"] }
noncomputable def o58 : Params → Obj := fun P => { cls := Value.type "builtin_function_or_method", data := Data.fields #[Value.builtin "type.__prepare__", Value.type "type"] }
noncomputable def o59 : Params → Obj := fun P => { cls := Value.type "dict", data := Data.dict #[{ hash := PyData.keyHash P (Str.ofString "__module__"), key := Value.str (Str.ofString "__module__") 203, val := Value.str (Str.ofString "paperhold.errors") 194 }, { hash := PyData.keyHash P (Str.ofString "__qualname__"), key := Value.str (Str.ofString "__qualname__") 205, val := Value.str (Str.ofString "PaperError") 204 }, { hash := PyData.keyHash P (Str.ofString "__firstlineno__"), key := Value.str (Str.ofString "__firstlineno__") 207, val := Value.int 5 206 }, { hash := PyData.keyHash P (Str.ofString "__init__"), key := Value.str (Str.ofString "__init__") 218, val := Value.ref 36 }, { hash := PyData.keyHash P (Str.ofString "told"), key := Value.str (Str.ofString "told") 225, val := Value.ref 43 }, { hash := PyData.keyHash P (Str.ofString "__static_attributes__"), key := Value.str (Str.ofString "__static_attributes__") 228, val := Value.ref 44 }] 6 }
noncomputable def o60 : Params → Obj := fun P => { cls := Value.type "tuple", data := Data.seq #[] }
noncomputable def o61 : Params → Obj := fun P => { cls := Value.none, data := Data.fields #[Value.int 7 0, Value.int 4 0, Value.ref 35, Value.int 12 0, Value.int 4 0, Value.ref 42] }
noncomputable def o62 : Params → Obj := fun P => { cls := Value.type "code", data := Data.fields #[Value.str (Str.ofString "PaperError") 198, Value.str (Str.ofString "PaperError") 199, Value.str (Str.ofString "/claim/cut.py") 200, Value.int 5 0, Value.int 0 0, Value.int 0 0, Value.int 0 0, Value.int 0 0, Value.ref 25, Value.bool false, Value.int 181 0, Value.ref 26, Value.none, Value.none, Value.none, Value.none, Value.int 201 0, Value.int 5 0, Value.str (Str.ofString "/claim/cut.py") 202] }
noncomputable def o63 : Params → Obj := fun P => { cls := Value.type "frame", slots := #[some (Value.ref 27), some (Value.ref 3), some (Value.ref 24), none, some (Value.str (Str.ofString "paperhold.errors") 194), none, some (Value.ref 0)] }
noncomputable def o64 : Params → Obj := fun P => { cls := Value.type "tuple", data := Data.seq #[Value.int (-1) 209] }
noncomputable def o65 : Params → Obj := fun P => { cls := Value.type "tuple", data := Data.seq #[] }
noncomputable def o66 : Params → Obj := fun P => { cls := Value.none, data := Data.fields #[] }
noncomputable def o67 : Params → Obj := fun P => { cls := Value.type "tuple", data := Data.seq #[Value.str (Str.ofString "self") 213, Value.str (Str.ofString "what") 214, Value.str (Str.ofString "at") 215] }
noncomputable def o68 : Params → Obj := fun P => { cls := Value.type "tuple", data := Data.seq #[] }
noncomputable def o69 : Params → Obj := fun P => lit3 (A := fA (mAt 2 0)) (B := fB (mAt 2 0)) (S := fS (mAt 2 0)) (by conv => lhs; whnf) (by conv => lhs; whnf) (by conv => lhs; whnf) fun a b s => { cls := Value.none, data := Data.func { name := Str.ofString "__init__", qualname := Str.ofString "PaperError.__init__", params := a, body := FuncBody.stmts b, scope := s, globals := 0, closure := [], defaults := Value.none, kwdefaults := Value.none } }
noncomputable def o70 : Params → Obj := fun P => { cls := Value.type "code", data := Data.fields #[Value.str (Str.ofString "__init__") 210, Value.str (Str.ofString "PaperError.__init__") 211, Value.str (Str.ofString "/claim/cut.py") 212, Value.int 7 0, Value.int 3 0, Value.int 0 0, Value.int 0 0, Value.int 3 0, Value.ref 30, Value.bool true, Value.int 181 0, Value.ref 31, Value.none, Value.ref 32, Value.ref 33, Value.ref 34, Value.int 216 0, Value.int 7 0, Value.str (Str.ofString "/claim/cut.py") 217] }
noncomputable def o71 : Params → Obj := fun P => lit3 (A := fA (mAt 2 0)) (B := fB (mAt 2 0)) (S := fS (mAt 2 0)) (by conv => lhs; whnf) (by conv => lhs; whnf) (by conv => lhs; whnf) fun a b s => { cls := Value.type "function", data := Data.func { name := Str.ofString "__init__", qualname := Str.ofString "PaperError.__init__", params := a, body := FuncBody.stmts b, scope := s, globals := 3, closure := [], defaults := Value.ref 29, kwdefaults := Value.none, pyModule := Value.str (Str.ofString "paperhold.errors") 194, code := Value.ref 35 } }
noncomputable def o72 : Params → Obj := fun P => { cls := Value.type "tuple", data := Data.seq #[] }
noncomputable def o73 : Params → Obj := fun P => { cls := Value.none, data := Data.fields #[] }
noncomputable def o74 : Params → Obj := fun P => { cls := Value.type "tuple", data := Data.seq #[Value.str (Str.ofString "self") 222] }
noncomputable def o75 : Params → Obj := fun P => { cls := Value.type "tuple", data := Data.seq #[] }
noncomputable def o76 : Params → Obj := fun P => lit3 (A := fA (mAt 2 1)) (B := fB (mAt 2 1)) (S := fS (mAt 2 1)) (by conv => lhs; whnf) (by conv => lhs; whnf) (by conv => lhs; whnf) fun a b s => { cls := Value.none, data := Data.func { name := Str.ofString "told", qualname := Str.ofString "PaperError.told", params := a, body := FuncBody.stmts b, scope := s, globals := 0, closure := [], defaults := Value.none, kwdefaults := Value.none } }
noncomputable def o77 : Params → Obj := fun P => { cls := Value.type "code", data := Data.fields #[Value.str (Str.ofString "told") 219, Value.str (Str.ofString "PaperError.told") 220, Value.str (Str.ofString "/claim/cut.py") 221, Value.int 12 0, Value.int 1 0, Value.int 0 0, Value.int 0 0, Value.int 3 0, Value.ref 37, Value.bool true, Value.int 181 0, Value.ref 38, Value.none, Value.ref 39, Value.ref 40, Value.ref 41, Value.int 223 0, Value.int 12 0, Value.str (Str.ofString "/claim/cut.py") 224] }
noncomputable def o78 : Params → Obj := fun P => lit3 (A := fA (mAt 2 1)) (B := fB (mAt 2 1)) (S := fS (mAt 2 1)) (by conv => lhs; whnf) (by conv => lhs; whnf) (by conv => lhs; whnf) fun a b s => { cls := Value.type "function", data := Data.func { name := Str.ofString "told", qualname := Str.ofString "PaperError.told", params := a, body := FuncBody.stmts b, scope := s, globals := 3, closure := [], defaults := Value.none, kwdefaults := Value.none, pyModule := Value.str (Str.ofString "paperhold.errors") 194, code := Value.ref 42 } }
noncomputable def o79 : Params → Obj := fun P => { cls := Value.type "tuple", data := Data.seq #[Value.str (Str.ofString "at") 226, Value.str (Str.ofString "what") 227] }
noncomputable def o80 : Params → Obj := fun P => { cls := Value.type "dict", data := Data.dict #[{ hash := PyData.keyHash P (Str.ofString "__module__"), key := Value.str (Str.ofString "__module__") 203, val := Value.str (Str.ofString "paperhold.errors") 194 }, { hash := PyData.keyHash P (Str.ofString "__firstlineno__"), key := Value.str (Str.ofString "__firstlineno__") 207, val := Value.int 5 206 }, { hash := PyData.keyHash P (Str.ofString "__init__"), key := Value.str (Str.ofString "__init__") 218, val := Value.ref 36 }, { hash := PyData.keyHash P (Str.ofString "told"), key := Value.str (Str.ofString "told") 225, val := Value.ref 43 }, { hash := PyData.keyHash P (Str.ofString "__static_attributes__"), key := Value.str (Str.ofString "__static_attributes__") 228, val := Value.ref 44 }, { hash := PyData.keyHash P (Str.ofString "__weakref__"), key := Value.str (Str.ofString "__weakref__") 230, val := Value.ref 47 }, { hash := PyData.keyHash P (Str.ofString "__doc__"), key := Value.str (Str.ofString "__doc__") 231, val := Value.none }] 3 }
noncomputable def o81 : Params → Obj := fun P => { cls := Value.type "type", data := Data.cls { name := Str.ofString "PaperError", bases := [Value.type "Exception"], mro := [Value.ref 46, Value.type "Exception", Value.type "BaseException", Value.type "object"], ns := 45, qualname := Str.ofString "PaperError", subclasses := [Value.ref 59] }, slots := #[some (Value.ref 22), none, some (Value.str (Str.ofString "PaperError") 196), some (Value.str (Str.ofString "PaperError") 204), some (Value.builtin "Exception.__new__"), some (Value.bool true)] }
noncomputable def o82 : Params → Obj := fun P => { cls := Value.type "getset_descriptor", data := Data.fields #[Value.str (Str.ofString "__weakref__") 229, Value.ref 46, Value.builtin "ExceptionGroup.__weakref__", Value.none] }
noncomputable def o83 : Params → Obj := fun P => { cls := Value.type "super", data := Data.fields #[Value.ref 46, Value.ref 46, Value.ref 46] }
noncomputable def o84 : Params → Obj := fun P => { cls := Value.type "builtin_function_or_method", data := Data.fields #[Value.builtin "object.__init_subclass__", Value.ref 46] }
noncomputable def o85 : Params → Obj := fun P => { cls := Value.type "tuple", data := Data.seq #[Value.ref 46] }
noncomputable def o86 : Params → Obj := fun P => { cls := Value.type "builtin_function_or_method", data := Data.fields #[Value.builtin "type.__prepare__", Value.type "type"] }
noncomputable def o87 : Params → Obj := fun P => { cls := Value.type "dict", data := Data.dict #[{ hash := PyData.keyHash P (Str.ofString "__module__"), key := Value.str (Str.ofString "__module__") 243, val := Value.str (Str.ofString "paperhold.errors") 194 }, { hash := PyData.keyHash P (Str.ofString "__qualname__"), key := Value.str (Str.ofString "__qualname__") 245, val := Value.str (Str.ofString "PaintFault") 244 }, { hash := PyData.keyHash P (Str.ofString "__firstlineno__"), key := Value.str (Str.ofString "__firstlineno__") 247, val := Value.int 14 246 }, { hash := PyData.keyHash P (Str.ofString "__static_attributes__"), key := Value.str (Str.ofString "__static_attributes__") 248, val := Value.ref 57 }] 4 }
noncomputable def o88 : Params → Obj := fun P => { cls := Value.type "tuple", data := Data.seq #[] }
noncomputable def o89 : Params → Obj := fun P => { cls := Value.none, data := Data.fields #[] }
noncomputable def o90 : Params → Obj := fun P => { cls := Value.type "code", data := Data.fields #[Value.str (Str.ofString "PaintFault") 238, Value.str (Str.ofString "PaintFault") 239, Value.str (Str.ofString "/claim/cut.py") 240, Value.int 14 0, Value.int 0 0, Value.int 0 0, Value.int 0 0, Value.int 0 0, Value.ref 53, Value.bool false, Value.int 181 0, Value.ref 54, Value.none, Value.none, Value.none, Value.none, Value.int 241 0, Value.int 14 0, Value.str (Str.ofString "/claim/cut.py") 242] }
noncomputable def o91 : Params → Obj := fun P => { cls := Value.type "frame", slots := #[some (Value.ref 55), some (Value.ref 3), some (Value.ref 52), none, some (Value.str (Str.ofString "paperhold.errors") 194), none, some (Value.ref 0)] }
noncomputable def o92 : Params → Obj := fun P => { cls := Value.type "tuple", data := Data.seq #[] }
noncomputable def o93 : Params → Obj := fun P => { cls := Value.type "dict", data := Data.dict #[{ hash := PyData.keyHash P (Str.ofString "__module__"), key := Value.str (Str.ofString "__module__") 243, val := Value.str (Str.ofString "paperhold.errors") 194 }, { hash := PyData.keyHash P (Str.ofString "__firstlineno__"), key := Value.str (Str.ofString "__firstlineno__") 247, val := Value.int 14 246 }, { hash := PyData.keyHash P (Str.ofString "__static_attributes__"), key := Value.str (Str.ofString "__static_attributes__") 248, val := Value.ref 57 }, { hash := PyData.keyHash P (Str.ofString "__doc__"), key := Value.str (Str.ofString "__doc__") 249, val := Value.none }] 2 }
noncomputable def o94 : Params → Obj := fun P => { cls := Value.type "type", data := Data.cls { name := Str.ofString "PaintFault", bases := [Value.ref 46], mro := [Value.ref 59, Value.ref 46, Value.type "Exception", Value.type "BaseException", Value.type "object"], ns := 58, qualname := Str.ofString "PaintFault" }, slots := #[some (Value.ref 50), none, some (Value.str (Str.ofString "PaintFault") 236), some (Value.str (Str.ofString "PaintFault") 244), some (Value.builtin "Exception.__new__"), some (Value.bool true)] }
noncomputable def o95 : Params → Obj := fun P => { cls := Value.type "super", data := Data.fields #[Value.ref 59, Value.ref 59, Value.ref 59] }
noncomputable def o96 : Params → Obj := fun P => { cls := Value.type "builtin_function_or_method", data := Data.fields #[Value.builtin "object.__init_subclass__", Value.ref 59] }
noncomputable def o97 : Params → Obj := fun P => { cls := Value.type "dict", data := Data.dict #[{ hash := PyData.keyHash P (Str.ofString "__name__"), key := Value.str (Str.ofString "__name__") 165, val := Value.str (Str.ofString "paperhold.objects") 458 }, { hash := PyData.keyHash P (Str.ofString "__doc__"), key := Value.str (Str.ofString "__doc__") 166, val := Value.none }, { hash := PyData.keyHash P (Str.ofString "__package__"), key := Value.str (Str.ofString "__package__") 167, val := Value.none }, { hash := PyData.keyHash P (Str.ofString "__loader__"), key := Value.str (Str.ofString "__loader__") 168, val := Value.builtin "__main__.__loader__#opaque" }, { hash := PyData.keyHash P (Str.ofString "__spec__"), key := Value.str (Str.ofString "__spec__") 169, val := Value.none }, { hash := PyData.keyHash P (Str.ofString "__annotations__"), key := Value.str (Str.ofString "__annotations__") 170, val := Value.ref 6 }, { hash := PyData.keyHash P (Str.ofString "__builtins__"), key := Value.str (Str.ofString "__builtins__") 171, val := Value.ref 4 }, { hash := PyData.keyHash P (Str.ofString "__file__"), key := Value.str (Str.ofString "__file__") 173, val := Value.str (Str.ofString "/claim/cut.py") 172 }, { hash := PyData.keyHash P (Str.ofString "__cached__"), key := Value.str (Str.ofString "__cached__") 174, val := Value.none }, { hash := PyData.keyHash P (Str.ofString "_wall"), key := Value.str (Str.ofString "_wall") 193, val := Value.ref 21 }, { hash := PyData.keyHash P (Str.ofString "PaperError"), key := Value.str (Str.ofString "PaperError") 235, val := Value.ref 46 }, { hash := PyData.keyHash P (Str.ofString "PaintFault"), key := Value.str (Str.ofString "PaintFault") 251, val := Value.ref 59 }, { hash := PyData.keyHash P (Str.ofString "Decimal"), key := Value.str (Str.ofString "Decimal") 374, val := Value.ref 155 }, { hash := PyData.keyHash P (Str.ofString "sign_text"), key := Value.str (Str.ofString "sign_text") 381, val := Value.ref 166 }, { hash := PyData.keyHash P (Str.ofString "sign_of"), key := Value.str (Str.ofString "sign_of") 388, val := Value.ref 173 }, { hash := PyData.keyHash P (Str.ofString "rounded_quotient"), key := Value.str (Str.ofString "rounded_quotient") 397, val := Value.ref 180 }, { hash := PyData.keyHash P (Str.ofString "decimal_of"), key := Value.str (Str.ofString "decimal_of") 404, val := Value.ref 187 }, { hash := PyData.keyHash P (Str.ofString "at_one_scale"), key := Value.str (Str.ofString "at_one_scale") 415, val := Value.ref 194 }, { hash := PyData.keyHash P (Str.ofString "tops_of"), key := Value.str (Str.ofString "tops_of") 421, val := Value.ref 199 }, { hash := PyData.keyHash P (Str.ofString "sum_of"), key := Value.str (Str.ofString "sum_of") 430, val := Value.ref 206 }, { hash := PyData.keyHash P (Str.ofString "least"), key := Value.str (Str.ofString "least") 439, val := Value.ref 213 }, { hash := PyData.keyHash P (Str.ofString "greatest"), key := Value.str (Str.ofString "greatest") 448, val := Value.ref 220 }, { hash := PyData.keyHash P (Str.ofString "clamped"), key := Value.str (Str.ofString "clamped") 457, val := Value.ref 227 }] 23 }
noncomputable def o98 : Params → Obj := fun P => { cls := Value.none, data := Data.fields #[Value.int 1 0, Value.int 0 0, Value.ref 20, Value.int 5 0, Value.int 0 0, Value.ref 27, Value.int 14 0, Value.int 0 0, Value.ref 55, Value.int 17 0, Value.int 0 0, Value.ref 67, Value.int 67 0, Value.int 0 0, Value.ref 165, Value.int 69 0, Value.int 0 0, Value.ref 172, Value.int 73 0, Value.int 0 0, Value.ref 179, Value.int 76 0, Value.int 0 0, Value.ref 186, Value.int 82 0, Value.int 0 0, Value.ref 193, Value.int 87 0, Value.int 0 0, Value.ref 198, Value.int 92 0, Value.int 0 0, Value.ref 205, Value.int 95 0, Value.int 0 0, Value.ref 212, Value.int 103 0, Value.int 0 0, Value.ref 219, Value.int 111 0, Value.int 0 0, Value.ref 226] }
noncomputable def o99 : Params → Obj := fun P => { cls := Value.type "tuple", data := Data.seq #[] }
noncomputable def o100 : Params → Obj := fun P => { cls := Value.type "builtin_function_or_method", data := Data.fields #[Value.builtin "type.__prepare__", Value.type "type"] }
noncomputable def o101 : Params → Obj := fun P => { cls := Value.type "dict", data := Data.dict #[{ hash := PyData.keyHash P (Str.ofString "__module__"), key := Value.str (Str.ofString "__module__") 261, val := Value.str (Str.ofString "paperhold.decimals") 252 }, { hash := PyData.keyHash P (Str.ofString "__qualname__"), key := Value.str (Str.ofString "__qualname__") 263, val := Value.str (Str.ofString "Decimal") 262 }, { hash := PyData.keyHash P (Str.ofString "__firstlineno__"), key := Value.str (Str.ofString "__firstlineno__") 265, val := Value.int 17 264 }, { hash := PyData.keyHash P (Str.ofString "__init__"), key := Value.str (Str.ofString "__init__") 274, val := Value.ref 75 }, { hash := PyData.keyHash P (Str.ofString "plus"), key := Value.str (Str.ofString "plus") 282, val := Value.ref 82 }, { hash := PyData.keyHash P (Str.ofString "minus"), key := Value.str (Str.ofString "minus") 293, val := Value.ref 89 }, { hash := PyData.keyHash P (Str.ofString "times"), key := Value.str (Str.ofString "times") 302, val := Value.ref 96 }, { hash := PyData.keyHash P (Str.ofString "negated"), key := Value.str (Str.ofString "negated") 309, val := Value.ref 103 }, { hash := PyData.keyHash P (Str.ofString "compared"), key := Value.str (Str.ofString "compared") 320, val := Value.ref 110 }, { hash := PyData.keyHash P (Str.ofString "is_whole"), key := Value.str (Str.ofString "is_whole") 327, val := Value.ref 117 }, { hash := PyData.keyHash P (Str.ofString "floor"), key := Value.str (Str.ofString "floor") 334, val := Value.ref 124 }, { hash := PyData.keyHash P (Str.ofString "rounded"), key := Value.str (Str.ofString "rounded") 342, val := Value.ref 131 }, { hash := PyData.keyHash P (Str.ofString "told"), key := Value.str (Str.ofString "told") 349, val := Value.ref 138 }, { hash := PyData.keyHash P (Str.ofString "text"), key := Value.str (Str.ofString "text") 357, val := Value.ref 145 }, { hash := PyData.keyHash P (Str.ofString "least_text"), key := Value.str (Str.ofString "least_text") 364, val := Value.ref 152 }, { hash := PyData.keyHash P (Str.ofString "__static_attributes__"), key := Value.str (Str.ofString "__static_attributes__") 367, val := Value.ref 153 }] 16 }
noncomputable def o102 : Params → Obj := fun P => { cls := Value.type "tuple", data := Data.seq #[] }
noncomputable def o103 : Params → Obj := fun P => { cls := Value.none, data := Data.fields #[Value.int 19 0, Value.int 4 0, Value.ref 74, Value.int 26 0, Value.int 4 0, Value.ref 81, Value.int 29 0, Value.int 4 0, Value.ref 88, Value.int 33 0, Value.int 4 0, Value.ref 95, Value.int 37 0, Value.int 4 0, Value.ref 102, Value.int 40 0, Value.int 4 0, Value.ref 109, Value.int 44 0, Value.int 4 0, Value.ref 116, Value.int 47 0, Value.int 4 0, Value.ref 123, Value.int 50 0, Value.int 4 0, Value.ref 130, Value.int 55 0, Value.int 4 0, Value.ref 137, Value.int 58 0, Value.int 4 0, Value.ref 144, Value.int 65 0, Value.int 4 0, Value.ref 151] }
noncomputable def o104 : Params → Obj := fun P => { cls := Value.type "code", data := Data.fields #[Value.str (Str.ofString "Decimal") 256, Value.str (Str.ofString "Decimal") 257, Value.str (Str.ofString "/claim/cut.py") 258, Value.int 17 0, Value.int 0 0, Value.int 0 0, Value.int 0 0, Value.int 0 0, Value.ref 65, Value.bool false, Value.int 181 0, Value.ref 66, Value.none, Value.none, Value.none, Value.none, Value.int 259 0, Value.int 17 0, Value.str (Str.ofString "/claim/cut.py") 260] }
noncomputable def o105 : Params → Obj := fun P => { cls := Value.type "frame", slots := #[some (Value.ref 67), some (Value.ref 3), some (Value.ref 64), none, some (Value.str (Str.ofString "paperhold.decimals") 252), none, some (Value.ref 0)] }
noncomputable def o106 : Params → Obj := fun P => { cls := Value.type "tuple", data := Data.seq #[] }
noncomputable def o107 : Params → Obj := fun P => { cls := Value.none, data := Data.fields #[] }
noncomputable def o108 : Params → Obj := fun P => { cls := Value.type "tuple", data := Data.seq #[Value.str (Str.ofString "self") 269, Value.str (Str.ofString "top") 270, Value.str (Str.ofString "places") 271] }
noncomputable def o109 : Params → Obj := fun P => { cls := Value.type "tuple", data := Data.seq #[] }
noncomputable def o110 : Params → Obj := fun P => lit3 (A := fA (mAt 5 0)) (B := fB (mAt 5 0)) (S := fS (mAt 5 0)) (by conv => lhs; whnf) (by conv => lhs; whnf) (by conv => lhs; whnf) fun a b s => { cls := Value.none, data := Data.func { name := Str.ofString "__init__", qualname := Str.ofString "Decimal.__init__", params := a, body := FuncBody.stmts b, scope := s, globals := 0, closure := [], defaults := Value.none, kwdefaults := Value.none } }
noncomputable def o111 : Params → Obj := fun P => { cls := Value.type "code", data := Data.fields #[Value.str (Str.ofString "__init__") 266, Value.str (Str.ofString "Decimal.__init__") 267, Value.str (Str.ofString "/claim/cut.py") 268, Value.int 19 0, Value.int 3 0, Value.int 0 0, Value.int 0 0, Value.int 3 0, Value.ref 69, Value.bool true, Value.int 181 0, Value.ref 70, Value.none, Value.ref 71, Value.ref 72, Value.ref 73, Value.int 272 0, Value.int 19 0, Value.str (Str.ofString "/claim/cut.py") 273] }
noncomputable def o112 : Params → Obj := fun P => lit3 (A := fA (mAt 5 0)) (B := fB (mAt 5 0)) (S := fS (mAt 5 0)) (by conv => lhs; whnf) (by conv => lhs; whnf) (by conv => lhs; whnf) fun a b s => { cls := Value.type "function", data := Data.func { name := Str.ofString "__init__", qualname := Str.ofString "Decimal.__init__", params := a, body := FuncBody.stmts b, scope := s, globals := 3, closure := [], defaults := Value.none, kwdefaults := Value.none, pyModule := Value.str (Str.ofString "paperhold.decimals") 252, code := Value.ref 74 } }
noncomputable def o113 : Params → Obj := fun P => { cls := Value.type "tuple", data := Data.seq #[] }
noncomputable def o114 : Params → Obj := fun P => { cls := Value.none, data := Data.fields #[] }
noncomputable def o115 : Params → Obj := fun P => { cls := Value.type "tuple", data := Data.seq #[Value.str (Str.ofString "self") 278, Value.str (Str.ofString "other") 279] }
noncomputable def o116 : Params → Obj := fun P => { cls := Value.type "tuple", data := Data.seq #[] }
noncomputable def o117 : Params → Obj := fun P => lit3 (A := fA (mAt 5 1)) (B := fB (mAt 5 1)) (S := fS (mAt 5 1)) (by conv => lhs; whnf) (by conv => lhs; whnf) (by conv => lhs; whnf) fun a b s => { cls := Value.none, data := Data.func { name := Str.ofString "plus", qualname := Str.ofString "Decimal.plus", params := a, body := FuncBody.stmts b, scope := s, globals := 0, closure := [], defaults := Value.none, kwdefaults := Value.none } }
noncomputable def o118 : Params → Obj := fun P => { cls := Value.type "code", data := Data.fields #[Value.str (Str.ofString "plus") 275, Value.str (Str.ofString "Decimal.plus") 276, Value.str (Str.ofString "/claim/cut.py") 277, Value.int 26 0, Value.int 2 0, Value.int 0 0, Value.int 0 0, Value.int 3 0, Value.ref 76, Value.bool true, Value.int 181 0, Value.ref 77, Value.none, Value.ref 78, Value.ref 79, Value.ref 80, Value.int 280 0, Value.int 26 0, Value.str (Str.ofString "/claim/cut.py") 281] }
noncomputable def o119 : Params → Obj := fun P => lit3 (A := fA (mAt 5 1)) (B := fB (mAt 5 1)) (S := fS (mAt 5 1)) (by conv => lhs; whnf) (by conv => lhs; whnf) (by conv => lhs; whnf) fun a b s => { cls := Value.type "function", data := Data.func { name := Str.ofString "plus", qualname := Str.ofString "Decimal.plus", params := a, body := FuncBody.stmts b, scope := s, globals := 3, closure := [], defaults := Value.none, kwdefaults := Value.none, pyModule := Value.str (Str.ofString "paperhold.decimals") 252, code := Value.ref 81 } }
noncomputable def o120 : Params → Obj := fun P => { cls := Value.type "tuple", data := Data.seq #[] }
noncomputable def o121 : Params → Obj := fun P => { cls := Value.none, data := Data.fields #[] }
noncomputable def o122 : Params → Obj := fun P => { cls := Value.type "tuple", data := Data.seq #[Value.str (Str.ofString "self") 286, Value.str (Str.ofString "other") 287, Value.str (Str.ofString "one") 288, Value.str (Str.ofString "two") 289, Value.str (Str.ofString "places") 290] }
noncomputable def o123 : Params → Obj := fun P => { cls := Value.type "tuple", data := Data.seq #[] }
noncomputable def o124 : Params → Obj := fun P => lit3 (A := fA (mAt 5 2)) (B := fB (mAt 5 2)) (S := fS (mAt 5 2)) (by conv => lhs; whnf) (by conv => lhs; whnf) (by conv => lhs; whnf) fun a b s => { cls := Value.none, data := Data.func { name := Str.ofString "minus", qualname := Str.ofString "Decimal.minus", params := a, body := FuncBody.stmts b, scope := s, globals := 0, closure := [], defaults := Value.none, kwdefaults := Value.none } }
noncomputable def o125 : Params → Obj := fun P => { cls := Value.type "code", data := Data.fields #[Value.str (Str.ofString "minus") 283, Value.str (Str.ofString "Decimal.minus") 284, Value.str (Str.ofString "/claim/cut.py") 285, Value.int 29 0, Value.int 2 0, Value.int 0 0, Value.int 0 0, Value.int 3 0, Value.ref 83, Value.bool true, Value.int 181 0, Value.ref 84, Value.none, Value.ref 85, Value.ref 86, Value.ref 87, Value.int 291 0, Value.int 29 0, Value.str (Str.ofString "/claim/cut.py") 292] }
noncomputable def o126 : Params → Obj := fun P => lit3 (A := fA (mAt 5 2)) (B := fB (mAt 5 2)) (S := fS (mAt 5 2)) (by conv => lhs; whnf) (by conv => lhs; whnf) (by conv => lhs; whnf) fun a b s => { cls := Value.type "function", data := Data.func { name := Str.ofString "minus", qualname := Str.ofString "Decimal.minus", params := a, body := FuncBody.stmts b, scope := s, globals := 3, closure := [], defaults := Value.none, kwdefaults := Value.none, pyModule := Value.str (Str.ofString "paperhold.decimals") 252, code := Value.ref 88 } }
noncomputable def o127 : Params → Obj := fun P => { cls := Value.type "tuple", data := Data.seq #[] }
noncomputable def o128 : Params → Obj := fun P => { cls := Value.none, data := Data.fields #[] }
noncomputable def o129 : Params → Obj := fun P => { cls := Value.type "tuple", data := Data.seq #[Value.str (Str.ofString "self") 297, Value.str (Str.ofString "other") 298, Value.str (Str.ofString "factor") 299] }
noncomputable def o130 : Params → Obj := fun P => { cls := Value.type "tuple", data := Data.seq #[] }
noncomputable def o131 : Params → Obj := fun P => lit3 (A := fA (mAt 5 3)) (B := fB (mAt 5 3)) (S := fS (mAt 5 3)) (by conv => lhs; whnf) (by conv => lhs; whnf) (by conv => lhs; whnf) fun a b s => { cls := Value.none, data := Data.func { name := Str.ofString "times", qualname := Str.ofString "Decimal.times", params := a, body := FuncBody.stmts b, scope := s, globals := 0, closure := [], defaults := Value.none, kwdefaults := Value.none } }
noncomputable def o132 : Params → Obj := fun P => { cls := Value.type "code", data := Data.fields #[Value.str (Str.ofString "times") 294, Value.str (Str.ofString "Decimal.times") 295, Value.str (Str.ofString "/claim/cut.py") 296, Value.int 33 0, Value.int 2 0, Value.int 0 0, Value.int 0 0, Value.int 3 0, Value.ref 90, Value.bool true, Value.int 181 0, Value.ref 91, Value.none, Value.ref 92, Value.ref 93, Value.ref 94, Value.int 300 0, Value.int 33 0, Value.str (Str.ofString "/claim/cut.py") 301] }
noncomputable def o133 : Params → Obj := fun P => lit3 (A := fA (mAt 5 3)) (B := fB (mAt 5 3)) (S := fS (mAt 5 3)) (by conv => lhs; whnf) (by conv => lhs; whnf) (by conv => lhs; whnf) fun a b s => { cls := Value.type "function", data := Data.func { name := Str.ofString "times", qualname := Str.ofString "Decimal.times", params := a, body := FuncBody.stmts b, scope := s, globals := 3, closure := [], defaults := Value.none, kwdefaults := Value.none, pyModule := Value.str (Str.ofString "paperhold.decimals") 252, code := Value.ref 95 } }
noncomputable def o134 : Params → Obj := fun P => { cls := Value.type "tuple", data := Data.seq #[] }
noncomputable def o135 : Params → Obj := fun P => { cls := Value.none, data := Data.fields #[] }
noncomputable def o136 : Params → Obj := fun P => { cls := Value.type "tuple", data := Data.seq #[Value.str (Str.ofString "self") 306] }
noncomputable def o137 : Params → Obj := fun P => { cls := Value.type "tuple", data := Data.seq #[] }
noncomputable def o138 : Params → Obj := fun P => lit3 (A := fA (mAt 5 4)) (B := fB (mAt 5 4)) (S := fS (mAt 5 4)) (by conv => lhs; whnf) (by conv => lhs; whnf) (by conv => lhs; whnf) fun a b s => { cls := Value.none, data := Data.func { name := Str.ofString "negated", qualname := Str.ofString "Decimal.negated", params := a, body := FuncBody.stmts b, scope := s, globals := 0, closure := [], defaults := Value.none, kwdefaults := Value.none } }
noncomputable def o139 : Params → Obj := fun P => { cls := Value.type "code", data := Data.fields #[Value.str (Str.ofString "negated") 303, Value.str (Str.ofString "Decimal.negated") 304, Value.str (Str.ofString "/claim/cut.py") 305, Value.int 37 0, Value.int 1 0, Value.int 0 0, Value.int 0 0, Value.int 3 0, Value.ref 97, Value.bool true, Value.int 181 0, Value.ref 98, Value.none, Value.ref 99, Value.ref 100, Value.ref 101, Value.int 307 0, Value.int 37 0, Value.str (Str.ofString "/claim/cut.py") 308] }
noncomputable def o140 : Params → Obj := fun P => lit3 (A := fA (mAt 5 4)) (B := fB (mAt 5 4)) (S := fS (mAt 5 4)) (by conv => lhs; whnf) (by conv => lhs; whnf) (by conv => lhs; whnf) fun a b s => { cls := Value.type "function", data := Data.func { name := Str.ofString "negated", qualname := Str.ofString "Decimal.negated", params := a, body := FuncBody.stmts b, scope := s, globals := 3, closure := [], defaults := Value.none, kwdefaults := Value.none, pyModule := Value.str (Str.ofString "paperhold.decimals") 252, code := Value.ref 102 } }
noncomputable def o141 : Params → Obj := fun P => { cls := Value.type "tuple", data := Data.seq #[] }
noncomputable def o142 : Params → Obj := fun P => { cls := Value.none, data := Data.fields #[] }
noncomputable def o143 : Params → Obj := fun P => { cls := Value.type "tuple", data := Data.seq #[Value.str (Str.ofString "self") 313, Value.str (Str.ofString "other") 314, Value.str (Str.ofString "one") 315, Value.str (Str.ofString "two") 316, Value.str (Str.ofString "places") 317] }
noncomputable def o144 : Params → Obj := fun P => { cls := Value.type "tuple", data := Data.seq #[] }
noncomputable def o145 : Params → Obj := fun P => lit3 (A := fA (mAt 5 5)) (B := fB (mAt 5 5)) (S := fS (mAt 5 5)) (by conv => lhs; whnf) (by conv => lhs; whnf) (by conv => lhs; whnf) fun a b s => { cls := Value.none, data := Data.func { name := Str.ofString "compared", qualname := Str.ofString "Decimal.compared", params := a, body := FuncBody.stmts b, scope := s, globals := 0, closure := [], defaults := Value.none, kwdefaults := Value.none } }
noncomputable def o146 : Params → Obj := fun P => { cls := Value.type "code", data := Data.fields #[Value.str (Str.ofString "compared") 310, Value.str (Str.ofString "Decimal.compared") 311, Value.str (Str.ofString "/claim/cut.py") 312, Value.int 40 0, Value.int 2 0, Value.int 0 0, Value.int 0 0, Value.int 3 0, Value.ref 104, Value.bool true, Value.int 181 0, Value.ref 105, Value.none, Value.ref 106, Value.ref 107, Value.ref 108, Value.int 318 0, Value.int 40 0, Value.str (Str.ofString "/claim/cut.py") 319] }
noncomputable def o147 : Params → Obj := fun P => lit3 (A := fA (mAt 5 5)) (B := fB (mAt 5 5)) (S := fS (mAt 5 5)) (by conv => lhs; whnf) (by conv => lhs; whnf) (by conv => lhs; whnf) fun a b s => { cls := Value.type "function", data := Data.func { name := Str.ofString "compared", qualname := Str.ofString "Decimal.compared", params := a, body := FuncBody.stmts b, scope := s, globals := 3, closure := [], defaults := Value.none, kwdefaults := Value.none, pyModule := Value.str (Str.ofString "paperhold.decimals") 252, code := Value.ref 109 } }
noncomputable def o148 : Params → Obj := fun P => { cls := Value.type "tuple", data := Data.seq #[] }
noncomputable def o149 : Params → Obj := fun P => { cls := Value.none, data := Data.fields #[] }
noncomputable def o150 : Params → Obj := fun P => { cls := Value.type "tuple", data := Data.seq #[Value.str (Str.ofString "self") 324] }
noncomputable def o151 : Params → Obj := fun P => { cls := Value.type "tuple", data := Data.seq #[] }
noncomputable def o152 : Params → Obj := fun P => lit3 (A := fA (mAt 5 6)) (B := fB (mAt 5 6)) (S := fS (mAt 5 6)) (by conv => lhs; whnf) (by conv => lhs; whnf) (by conv => lhs; whnf) fun a b s => { cls := Value.none, data := Data.func { name := Str.ofString "is_whole", qualname := Str.ofString "Decimal.is_whole", params := a, body := FuncBody.stmts b, scope := s, globals := 0, closure := [], defaults := Value.none, kwdefaults := Value.none } }
noncomputable def o153 : Params → Obj := fun P => { cls := Value.type "code", data := Data.fields #[Value.str (Str.ofString "is_whole") 321, Value.str (Str.ofString "Decimal.is_whole") 322, Value.str (Str.ofString "/claim/cut.py") 323, Value.int 44 0, Value.int 1 0, Value.int 0 0, Value.int 0 0, Value.int 3 0, Value.ref 111, Value.bool true, Value.int 181 0, Value.ref 112, Value.none, Value.ref 113, Value.ref 114, Value.ref 115, Value.int 325 0, Value.int 44 0, Value.str (Str.ofString "/claim/cut.py") 326] }
noncomputable def o154 : Params → Obj := fun P => lit3 (A := fA (mAt 5 6)) (B := fB (mAt 5 6)) (S := fS (mAt 5 6)) (by conv => lhs; whnf) (by conv => lhs; whnf) (by conv => lhs; whnf) fun a b s => { cls := Value.type "function", data := Data.func { name := Str.ofString "is_whole", qualname := Str.ofString "Decimal.is_whole", params := a, body := FuncBody.stmts b, scope := s, globals := 3, closure := [], defaults := Value.none, kwdefaults := Value.none, pyModule := Value.str (Str.ofString "paperhold.decimals") 252, code := Value.ref 116 } }
noncomputable def o155 : Params → Obj := fun P => { cls := Value.type "tuple", data := Data.seq #[] }
noncomputable def o156 : Params → Obj := fun P => { cls := Value.none, data := Data.fields #[] }
noncomputable def o157 : Params → Obj := fun P => { cls := Value.type "tuple", data := Data.seq #[Value.str (Str.ofString "self") 331] }
noncomputable def o158 : Params → Obj := fun P => { cls := Value.type "tuple", data := Data.seq #[] }
noncomputable def o159 : Params → Obj := fun P => lit3 (A := fA (mAt 5 7)) (B := fB (mAt 5 7)) (S := fS (mAt 5 7)) (by conv => lhs; whnf) (by conv => lhs; whnf) (by conv => lhs; whnf) fun a b s => { cls := Value.none, data := Data.func { name := Str.ofString "floor", qualname := Str.ofString "Decimal.floor", params := a, body := FuncBody.stmts b, scope := s, globals := 0, closure := [], defaults := Value.none, kwdefaults := Value.none } }
noncomputable def o160 : Params → Obj := fun P => { cls := Value.type "code", data := Data.fields #[Value.str (Str.ofString "floor") 328, Value.str (Str.ofString "Decimal.floor") 329, Value.str (Str.ofString "/claim/cut.py") 330, Value.int 47 0, Value.int 1 0, Value.int 0 0, Value.int 0 0, Value.int 3 0, Value.ref 118, Value.bool true, Value.int 181 0, Value.ref 119, Value.none, Value.ref 120, Value.ref 121, Value.ref 122, Value.int 332 0, Value.int 47 0, Value.str (Str.ofString "/claim/cut.py") 333] }
noncomputable def o161 : Params → Obj := fun P => lit3 (A := fA (mAt 5 7)) (B := fB (mAt 5 7)) (S := fS (mAt 5 7)) (by conv => lhs; whnf) (by conv => lhs; whnf) (by conv => lhs; whnf) fun a b s => { cls := Value.type "function", data := Data.func { name := Str.ofString "floor", qualname := Str.ofString "Decimal.floor", params := a, body := FuncBody.stmts b, scope := s, globals := 3, closure := [], defaults := Value.none, kwdefaults := Value.none, pyModule := Value.str (Str.ofString "paperhold.decimals") 252, code := Value.ref 123 } }
noncomputable def o162 : Params → Obj := fun P => { cls := Value.type "tuple", data := Data.seq #[] }
noncomputable def o163 : Params → Obj := fun P => { cls := Value.none, data := Data.fields #[] }
noncomputable def o164 : Params → Obj := fun P => { cls := Value.type "tuple", data := Data.seq #[Value.str (Str.ofString "self") 338, Value.str (Str.ofString "places") 339] }
noncomputable def o165 : Params → Obj := fun P => { cls := Value.type "tuple", data := Data.seq #[] }
noncomputable def o166 : Params → Obj := fun P => lit3 (A := fA (mAt 5 8)) (B := fB (mAt 5 8)) (S := fS (mAt 5 8)) (by conv => lhs; whnf) (by conv => lhs; whnf) (by conv => lhs; whnf) fun a b s => { cls := Value.none, data := Data.func { name := Str.ofString "rounded", qualname := Str.ofString "Decimal.rounded", params := a, body := FuncBody.stmts b, scope := s, globals := 0, closure := [], defaults := Value.none, kwdefaults := Value.none } }
noncomputable def o167 : Params → Obj := fun P => { cls := Value.type "code", data := Data.fields #[Value.str (Str.ofString "rounded") 335, Value.str (Str.ofString "Decimal.rounded") 336, Value.str (Str.ofString "/claim/cut.py") 337, Value.int 50 0, Value.int 2 0, Value.int 0 0, Value.int 0 0, Value.int 3 0, Value.ref 125, Value.bool true, Value.int 181 0, Value.ref 126, Value.none, Value.ref 127, Value.ref 128, Value.ref 129, Value.int 340 0, Value.int 50 0, Value.str (Str.ofString "/claim/cut.py") 341] }
noncomputable def o168 : Params → Obj := fun P => lit3 (A := fA (mAt 5 8)) (B := fB (mAt 5 8)) (S := fS (mAt 5 8)) (by conv => lhs; whnf) (by conv => lhs; whnf) (by conv => lhs; whnf) fun a b s => { cls := Value.type "function", data := Data.func { name := Str.ofString "rounded", qualname := Str.ofString "Decimal.rounded", params := a, body := FuncBody.stmts b, scope := s, globals := 3, closure := [], defaults := Value.none, kwdefaults := Value.none, pyModule := Value.str (Str.ofString "paperhold.decimals") 252, code := Value.ref 130 } }
noncomputable def o169 : Params → Obj := fun P => { cls := Value.type "tuple", data := Data.seq #[] }
noncomputable def o170 : Params → Obj := fun P => { cls := Value.none, data := Data.fields #[] }
noncomputable def o171 : Params → Obj := fun P => { cls := Value.type "tuple", data := Data.seq #[Value.str (Str.ofString "self") 346] }
noncomputable def o172 : Params → Obj := fun P => { cls := Value.type "tuple", data := Data.seq #[] }
noncomputable def o173 : Params → Obj := fun P => lit3 (A := fA (mAt 5 9)) (B := fB (mAt 5 9)) (S := fS (mAt 5 9)) (by conv => lhs; whnf) (by conv => lhs; whnf) (by conv => lhs; whnf) fun a b s => { cls := Value.none, data := Data.func { name := Str.ofString "told", qualname := Str.ofString "Decimal.told", params := a, body := FuncBody.stmts b, scope := s, globals := 0, closure := [], defaults := Value.none, kwdefaults := Value.none } }
noncomputable def o174 : Params → Obj := fun P => { cls := Value.type "code", data := Data.fields #[Value.str (Str.ofString "told") 343, Value.str (Str.ofString "Decimal.told") 344, Value.str (Str.ofString "/claim/cut.py") 345, Value.int 55 0, Value.int 1 0, Value.int 0 0, Value.int 0 0, Value.int 3 0, Value.ref 132, Value.bool true, Value.int 181 0, Value.ref 133, Value.none, Value.ref 134, Value.ref 135, Value.ref 136, Value.int 347 0, Value.int 55 0, Value.str (Str.ofString "/claim/cut.py") 348] }
noncomputable def o175 : Params → Obj := fun P => lit3 (A := fA (mAt 5 9)) (B := fB (mAt 5 9)) (S := fS (mAt 5 9)) (by conv => lhs; whnf) (by conv => lhs; whnf) (by conv => lhs; whnf) fun a b s => { cls := Value.type "function", data := Data.func { name := Str.ofString "told", qualname := Str.ofString "Decimal.told", params := a, body := FuncBody.stmts b, scope := s, globals := 3, closure := [], defaults := Value.none, kwdefaults := Value.none, pyModule := Value.str (Str.ofString "paperhold.decimals") 252, code := Value.ref 137 } }
noncomputable def o176 : Params → Obj := fun P => { cls := Value.type "tuple", data := Data.seq #[] }
noncomputable def o177 : Params → Obj := fun P => { cls := Value.none, data := Data.fields #[] }
noncomputable def o178 : Params → Obj := fun P => { cls := Value.type "tuple", data := Data.seq #[Value.str (Str.ofString "self") 353, Value.str (Str.ofString "numerals") 354] }
noncomputable def o179 : Params → Obj := fun P => { cls := Value.type "tuple", data := Data.seq #[] }
noncomputable def o180 : Params → Obj := fun P => lit3 (A := fA (mAt 5 10)) (B := fB (mAt 5 10)) (S := fS (mAt 5 10)) (by conv => lhs; whnf) (by conv => lhs; whnf) (by conv => lhs; whnf) fun a b s => { cls := Value.none, data := Data.func { name := Str.ofString "text", qualname := Str.ofString "Decimal.text", params := a, body := FuncBody.stmts b, scope := s, globals := 0, closure := [], defaults := Value.none, kwdefaults := Value.none } }
noncomputable def o181 : Params → Obj := fun P => { cls := Value.type "code", data := Data.fields #[Value.str (Str.ofString "text") 350, Value.str (Str.ofString "Decimal.text") 351, Value.str (Str.ofString "/claim/cut.py") 352, Value.int 58 0, Value.int 1 0, Value.int 0 0, Value.int 0 0, Value.int 3 0, Value.ref 139, Value.bool true, Value.int 181 0, Value.ref 140, Value.none, Value.ref 141, Value.ref 142, Value.ref 143, Value.int 355 0, Value.int 58 0, Value.str (Str.ofString "/claim/cut.py") 356] }
noncomputable def o182 : Params → Obj := fun P => lit3 (A := fA (mAt 5 10)) (B := fB (mAt 5 10)) (S := fS (mAt 5 10)) (by conv => lhs; whnf) (by conv => lhs; whnf) (by conv => lhs; whnf) fun a b s => { cls := Value.type "function", data := Data.func { name := Str.ofString "text", qualname := Str.ofString "Decimal.text", params := a, body := FuncBody.stmts b, scope := s, globals := 3, closure := [], defaults := Value.none, kwdefaults := Value.none, pyModule := Value.str (Str.ofString "paperhold.decimals") 252, code := Value.ref 144 } }
noncomputable def o183 : Params → Obj := fun P => { cls := Value.type "tuple", data := Data.seq #[] }
noncomputable def o184 : Params → Obj := fun P => { cls := Value.none, data := Data.fields #[] }
noncomputable def o185 : Params → Obj := fun P => { cls := Value.type "tuple", data := Data.seq #[Value.str (Str.ofString "self") 361] }
noncomputable def o186 : Params → Obj := fun P => { cls := Value.type "tuple", data := Data.seq #[] }
noncomputable def o187 : Params → Obj := fun P => lit3 (A := fA (mAt 5 11)) (B := fB (mAt 5 11)) (S := fS (mAt 5 11)) (by conv => lhs; whnf) (by conv => lhs; whnf) (by conv => lhs; whnf) fun a b s => { cls := Value.none, data := Data.func { name := Str.ofString "least_text", qualname := Str.ofString "Decimal.least_text", params := a, body := FuncBody.stmts b, scope := s, globals := 0, closure := [], defaults := Value.none, kwdefaults := Value.none } }
noncomputable def o188 : Params → Obj := fun P => { cls := Value.type "code", data := Data.fields #[Value.str (Str.ofString "least_text") 358, Value.str (Str.ofString "Decimal.least_text") 359, Value.str (Str.ofString "/claim/cut.py") 360, Value.int 65 0, Value.int 1 0, Value.int 0 0, Value.int 0 0, Value.int 3 0, Value.ref 146, Value.bool true, Value.int 181 0, Value.ref 147, Value.none, Value.ref 148, Value.ref 149, Value.ref 150, Value.int 362 0, Value.int 65 0, Value.str (Str.ofString "/claim/cut.py") 363] }
noncomputable def o189 : Params → Obj := fun P => lit3 (A := fA (mAt 5 11)) (B := fB (mAt 5 11)) (S := fS (mAt 5 11)) (by conv => lhs; whnf) (by conv => lhs; whnf) (by conv => lhs; whnf) fun a b s => { cls := Value.type "function", data := Data.func { name := Str.ofString "least_text", qualname := Str.ofString "Decimal.least_text", params := a, body := FuncBody.stmts b, scope := s, globals := 3, closure := [], defaults := Value.none, kwdefaults := Value.none, pyModule := Value.str (Str.ofString "paperhold.decimals") 252, code := Value.ref 151 } }
noncomputable def o190 : Params → Obj := fun P => { cls := Value.type "tuple", data := Data.seq #[Value.str (Str.ofString "places") 365, Value.str (Str.ofString "top") 366] }
noncomputable def o191 : Params → Obj := fun P => { cls := Value.type "dict", data := Data.dict #[{ hash := PyData.keyHash P (Str.ofString "__module__"), key := Value.str (Str.ofString "__module__") 261, val := Value.str (Str.ofString "paperhold.decimals") 252 }, { hash := PyData.keyHash P (Str.ofString "__firstlineno__"), key := Value.str (Str.ofString "__firstlineno__") 265, val := Value.int 17 264 }, { hash := PyData.keyHash P (Str.ofString "__init__"), key := Value.str (Str.ofString "__init__") 274, val := Value.ref 75 }, { hash := PyData.keyHash P (Str.ofString "plus"), key := Value.str (Str.ofString "plus") 282, val := Value.ref 82 }, { hash := PyData.keyHash P (Str.ofString "minus"), key := Value.str (Str.ofString "minus") 293, val := Value.ref 89 }, { hash := PyData.keyHash P (Str.ofString "times"), key := Value.str (Str.ofString "times") 302, val := Value.ref 96 }, { hash := PyData.keyHash P (Str.ofString "negated"), key := Value.str (Str.ofString "negated") 309, val := Value.ref 103 }, { hash := PyData.keyHash P (Str.ofString "compared"), key := Value.str (Str.ofString "compared") 320, val := Value.ref 110 }, { hash := PyData.keyHash P (Str.ofString "is_whole"), key := Value.str (Str.ofString "is_whole") 327, val := Value.ref 117 }, { hash := PyData.keyHash P (Str.ofString "floor"), key := Value.str (Str.ofString "floor") 334, val := Value.ref 124 }, { hash := PyData.keyHash P (Str.ofString "rounded"), key := Value.str (Str.ofString "rounded") 342, val := Value.ref 131 }, { hash := PyData.keyHash P (Str.ofString "told"), key := Value.str (Str.ofString "told") 349, val := Value.ref 138 }, { hash := PyData.keyHash P (Str.ofString "text"), key := Value.str (Str.ofString "text") 357, val := Value.ref 145 }, { hash := PyData.keyHash P (Str.ofString "least_text"), key := Value.str (Str.ofString "least_text") 364, val := Value.ref 152 }, { hash := PyData.keyHash P (Str.ofString "__static_attributes__"), key := Value.str (Str.ofString "__static_attributes__") 367, val := Value.ref 153 }, { hash := PyData.keyHash P (Str.ofString "__dict__"), key := Value.str (Str.ofString "__dict__") 369, val := Value.ref 156 }, { hash := PyData.keyHash P (Str.ofString "__weakref__"), key := Value.str (Str.ofString "__weakref__") 371, val := Value.ref 157 }, { hash := PyData.keyHash P (Str.ofString "__doc__"), key := Value.str (Str.ofString "__doc__") 372, val := Value.none }] 4 }
noncomputable def o192 : Params → Obj := fun P => { cls := Value.type "type", data := Data.cls { name := Str.ofString "Decimal", bases := [Value.type "object"], mro := [Value.ref 155, Value.type "object"], ns := 154, qualname := Str.ofString "Decimal" }, slots := #[none, none, some (Value.str (Str.ofString "Decimal") 254), some (Value.str (Str.ofString "Decimal") 262), some (Value.builtin "object.__new__"), some (Value.bool true)] }
noncomputable def o193 : Params → Obj := fun P => { cls := Value.type "getset_descriptor", data := Data.fields #[Value.str (Str.ofString "__dict__") 368, Value.ref 155, Value.builtin "function.__dict__", Value.builtin "function.__dict__#set"] }
noncomputable def o194 : Params → Obj := fun P => { cls := Value.type "getset_descriptor", data := Data.fields #[Value.str (Str.ofString "__weakref__") 370, Value.ref 155, Value.builtin "ExceptionGroup.__weakref__", Value.none] }
noncomputable def o195 : Params → Obj := fun P => { cls := Value.type "super", data := Data.fields #[Value.ref 155, Value.ref 155, Value.ref 155] }
noncomputable def o196 : Params → Obj := fun P => { cls := Value.type "builtin_function_or_method", data := Data.fields #[Value.builtin "object.__init_subclass__", Value.ref 155] }
noncomputable def o197 : Params → Obj := fun P => { cls := Value.type "tuple", data := Data.seq #[] }
noncomputable def o198 : Params → Obj := fun P => { cls := Value.none, data := Data.fields #[] }
noncomputable def o199 : Params → Obj := fun P => { cls := Value.type "tuple", data := Data.seq #[Value.str (Str.ofString "number") 378] }
noncomputable def o200 : Params → Obj := fun P => { cls := Value.type "tuple", data := Data.seq #[] }
noncomputable def o201 : Params → Obj := fun P => lit3 (A := fA (sAt 6)) (B := fB (sAt 6)) (S := fS (sAt 6)) (by conv => lhs; whnf) (by conv => lhs; whnf) (by conv => lhs; whnf) fun a b s => { cls := Value.none, data := Data.func { name := Str.ofString "sign_text", qualname := Str.ofString "sign_text", params := a, body := FuncBody.stmts b, scope := s, globals := 0, closure := [], defaults := Value.none, kwdefaults := Value.none } }
noncomputable def o202 : Params → Obj := fun P => { cls := Value.type "code", data := Data.fields #[Value.str (Str.ofString "sign_text") 375, Value.str (Str.ofString "sign_text") 376, Value.str (Str.ofString "/claim/cut.py") 377, Value.int 67 0, Value.int 1 0, Value.int 0 0, Value.int 0 0, Value.int 3 0, Value.ref 160, Value.bool true, Value.int 181 0, Value.ref 161, Value.none, Value.ref 162, Value.ref 163, Value.ref 164, Value.int 379 0, Value.int 67 0, Value.str (Str.ofString "/claim/cut.py") 380] }
noncomputable def o203 : Params → Obj := fun P => lit3 (A := fA (sAt 6)) (B := fB (sAt 6)) (S := fS (sAt 6)) (by conv => lhs; whnf) (by conv => lhs; whnf) (by conv => lhs; whnf) fun a b s => { cls := Value.type "function", data := Data.func { name := Str.ofString "sign_text", qualname := Str.ofString "sign_text", params := a, body := FuncBody.stmts b, scope := s, globals := 3, closure := [], defaults := Value.none, kwdefaults := Value.none, pyModule := Value.str (Str.ofString "paperhold.decimals") 252, code := Value.ref 165 } }
noncomputable def o204 : Params → Obj := fun P => { cls := Value.type "tuple", data := Data.seq #[] }
noncomputable def o205 : Params → Obj := fun P => { cls := Value.none, data := Data.fields #[] }
noncomputable def o206 : Params → Obj := fun P => { cls := Value.type "tuple", data := Data.seq #[Value.str (Str.ofString "number") 385] }
noncomputable def o207 : Params → Obj := fun P => { cls := Value.type "tuple", data := Data.seq #[] }
noncomputable def o208 : Params → Obj := fun P => lit3 (A := fA (sAt 7)) (B := fB (sAt 7)) (S := fS (sAt 7)) (by conv => lhs; whnf) (by conv => lhs; whnf) (by conv => lhs; whnf) fun a b s => { cls := Value.none, data := Data.func { name := Str.ofString "sign_of", qualname := Str.ofString "sign_of", params := a, body := FuncBody.stmts b, scope := s, globals := 0, closure := [], defaults := Value.none, kwdefaults := Value.none } }
noncomputable def o209 : Params → Obj := fun P => { cls := Value.type "code", data := Data.fields #[Value.str (Str.ofString "sign_of") 382, Value.str (Str.ofString "sign_of") 383, Value.str (Str.ofString "/claim/cut.py") 384, Value.int 69 0, Value.int 1 0, Value.int 0 0, Value.int 0 0, Value.int 3 0, Value.ref 167, Value.bool true, Value.int 181 0, Value.ref 168, Value.none, Value.ref 169, Value.ref 170, Value.ref 171, Value.int 386 0, Value.int 69 0, Value.str (Str.ofString "/claim/cut.py") 387] }
noncomputable def o210 : Params → Obj := fun P => lit3 (A := fA (sAt 7)) (B := fB (sAt 7)) (S := fS (sAt 7)) (by conv => lhs; whnf) (by conv => lhs; whnf) (by conv => lhs; whnf) fun a b s => { cls := Value.type "function", data := Data.func { name := Str.ofString "sign_of", qualname := Str.ofString "sign_of", params := a, body := FuncBody.stmts b, scope := s, globals := 3, closure := [], defaults := Value.none, kwdefaults := Value.none, pyModule := Value.str (Str.ofString "paperhold.decimals") 252, code := Value.ref 172 } }
noncomputable def o211 : Params → Obj := fun P => { cls := Value.type "tuple", data := Data.seq #[] }
noncomputable def o212 : Params → Obj := fun P => { cls := Value.none, data := Data.fields #[] }
noncomputable def o213 : Params → Obj := fun P => { cls := Value.type "tuple", data := Data.seq #[Value.str (Str.ofString "top") 392, Value.str (Str.ofString "below") 393, Value.str (Str.ofString "size") 394] }
noncomputable def o214 : Params → Obj := fun P => { cls := Value.type "tuple", data := Data.seq #[] }
noncomputable def o215 : Params → Obj := fun P => lit3 (A := fA (sAt 8)) (B := fB (sAt 8)) (S := fS (sAt 8)) (by conv => lhs; whnf) (by conv => lhs; whnf) (by conv => lhs; whnf) fun a b s => { cls := Value.none, data := Data.func { name := Str.ofString "rounded_quotient", qualname := Str.ofString "rounded_quotient", params := a, body := FuncBody.stmts b, scope := s, globals := 0, closure := [], defaults := Value.none, kwdefaults := Value.none } }
noncomputable def o216 : Params → Obj := fun P => { cls := Value.type "code", data := Data.fields #[Value.str (Str.ofString "rounded_quotient") 389, Value.str (Str.ofString "rounded_quotient") 390, Value.str (Str.ofString "/claim/cut.py") 391, Value.int 73 0, Value.int 2 0, Value.int 0 0, Value.int 0 0, Value.int 3 0, Value.ref 174, Value.bool true, Value.int 181 0, Value.ref 175, Value.none, Value.ref 176, Value.ref 177, Value.ref 178, Value.int 395 0, Value.int 73 0, Value.str (Str.ofString "/claim/cut.py") 396] }
noncomputable def o217 : Params → Obj := fun P => lit3 (A := fA (sAt 8)) (B := fB (sAt 8)) (S := fS (sAt 8)) (by conv => lhs; whnf) (by conv => lhs; whnf) (by conv => lhs; whnf) fun a b s => { cls := Value.type "function", data := Data.func { name := Str.ofString "rounded_quotient", qualname := Str.ofString "rounded_quotient", params := a, body := FuncBody.stmts b, scope := s, globals := 3, closure := [], defaults := Value.none, kwdefaults := Value.none, pyModule := Value.str (Str.ofString "paperhold.decimals") 252, code := Value.ref 179 } }
noncomputable def o218 : Params → Obj := fun P => { cls := Value.type "tuple", data := Data.seq #[] }
noncomputable def o219 : Params → Obj := fun P => { cls := Value.none, data := Data.fields #[] }
noncomputable def o220 : Params → Obj := fun P => { cls := Value.type "tuple", data := Data.seq #[Value.str (Str.ofString "value") 401] }
noncomputable def o221 : Params → Obj := fun P => { cls := Value.type "tuple", data := Data.seq #[] }
noncomputable def o222 : Params → Obj := fun P => lit3 (A := fA (sAt 9)) (B := fB (sAt 9)) (S := fS (sAt 9)) (by conv => lhs; whnf) (by conv => lhs; whnf) (by conv => lhs; whnf) fun a b s => { cls := Value.none, data := Data.func { name := Str.ofString "decimal_of", qualname := Str.ofString "decimal_of", params := a, body := FuncBody.stmts b, scope := s, globals := 0, closure := [], defaults := Value.none, kwdefaults := Value.none } }
noncomputable def o223 : Params → Obj := fun P => { cls := Value.type "code", data := Data.fields #[Value.str (Str.ofString "decimal_of") 398, Value.str (Str.ofString "decimal_of") 399, Value.str (Str.ofString "/claim/cut.py") 400, Value.int 76 0, Value.int 1 0, Value.int 0 0, Value.int 0 0, Value.int 3 0, Value.ref 181, Value.bool true, Value.int 181 0, Value.ref 182, Value.none, Value.ref 183, Value.ref 184, Value.ref 185, Value.int 402 0, Value.int 76 0, Value.str (Str.ofString "/claim/cut.py") 403] }
noncomputable def o224 : Params → Obj := fun P => lit3 (A := fA (sAt 9)) (B := fB (sAt 9)) (S := fS (sAt 9)) (by conv => lhs; whnf) (by conv => lhs; whnf) (by conv => lhs; whnf) fun a b s => { cls := Value.type "function", data := Data.func { name := Str.ofString "decimal_of", qualname := Str.ofString "decimal_of", params := a, body := FuncBody.stmts b, scope := s, globals := 3, closure := [], defaults := Value.none, kwdefaults := Value.none, pyModule := Value.str (Str.ofString "paperhold.decimals") 252, code := Value.ref 186 } }
noncomputable def o225 : Params → Obj := fun P => { cls := Value.type "tuple", data := Data.seq #[] }
noncomputable def o226 : Params → Obj := fun P => { cls := Value.none, data := Data.fields #[] }
noncomputable def o227 : Params → Obj := fun P => { cls := Value.type "tuple", data := Data.seq #[Value.str (Str.ofString "one") 408, Value.str (Str.ofString "other") 409, Value.str (Str.ofString "first") 410, Value.str (Str.ofString "second") 411, Value.str (Str.ofString "places") 412] }
noncomputable def o228 : Params → Obj := fun P => { cls := Value.type "tuple", data := Data.seq #[] }
noncomputable def o229 : Params → Obj := fun P => lit3 (A := fA (sAt 10)) (B := fB (sAt 10)) (S := fS (sAt 10)) (by conv => lhs; whnf) (by conv => lhs; whnf) (by conv => lhs; whnf) fun a b s => { cls := Value.none, data := Data.func { name := Str.ofString "at_one_scale", qualname := Str.ofString "at_one_scale", params := a, body := FuncBody.stmts b, scope := s, globals := 0, closure := [], defaults := Value.none, kwdefaults := Value.none } }
noncomputable def o230 : Params → Obj := fun P => { cls := Value.type "code", data := Data.fields #[Value.str (Str.ofString "at_one_scale") 405, Value.str (Str.ofString "at_one_scale") 406, Value.str (Str.ofString "/claim/cut.py") 407, Value.int 82 0, Value.int 2 0, Value.int 0 0, Value.int 0 0, Value.int 3 0, Value.ref 188, Value.bool true, Value.int 181 0, Value.ref 189, Value.none, Value.ref 190, Value.ref 191, Value.ref 192, Value.int 413 0, Value.int 82 0, Value.str (Str.ofString "/claim/cut.py") 414] }
noncomputable def o231 : Params → Obj := fun P => lit3 (A := fA (sAt 10)) (B := fB (sAt 10)) (S := fS (sAt 10)) (by conv => lhs; whnf) (by conv => lhs; whnf) (by conv => lhs; whnf) fun a b s => { cls := Value.type "function", data := Data.func { name := Str.ofString "at_one_scale", qualname := Str.ofString "at_one_scale", params := a, body := FuncBody.stmts b, scope := s, globals := 3, closure := [], defaults := Value.none, kwdefaults := Value.none, pyModule := Value.str (Str.ofString "paperhold.decimals") 252, code := Value.ref 193 } }
noncomputable def o232 : Params → Obj := fun P => { cls := Value.type "tuple", data := Data.seq #[] }
noncomputable def o233 : Params → Obj := fun P => { cls := Value.none, data := Data.fields #[] }
noncomputable def o234 : Params → Obj := fun P => lit3 (A := fA (sAt 11)) (B := fB (sAt 11)) (S := fS (sAt 11)) (by conv => lhs; whnf) (by conv => lhs; whnf) (by conv => lhs; whnf) fun a b s => { cls := Value.none, data := Data.func { name := Str.ofString "tops_of", qualname := Str.ofString "tops_of", params := a, body := FuncBody.stmts b, scope := s, globals := 0, closure := [], defaults := Value.none, kwdefaults := Value.none } }
noncomputable def o235 : Params → Obj := fun P => { cls := Value.type "code", data := Data.fields #[Value.str (Str.ofString "tops_of") 416, Value.str (Str.ofString "tops_of") 417, Value.str (Str.ofString "/claim/cut.py") 418, Value.int 87 0, Value.int 1 0, Value.int 0 0, Value.int 0 0, Value.int 3 0, Value.ref 195, Value.bool true, Value.int 181 0, Value.ref 196, Value.none, Value.none, Value.none, Value.ref 197, Value.int 419 0, Value.int 87 0, Value.str (Str.ofString "/claim/cut.py") 420] }
noncomputable def o236 : Params → Obj := fun P => lit3 (A := fA (sAt 11)) (B := fB (sAt 11)) (S := fS (sAt 11)) (by conv => lhs; whnf) (by conv => lhs; whnf) (by conv => lhs; whnf) fun a b s => { cls := Value.type "function", data := Data.func { name := Str.ofString "tops_of", qualname := Str.ofString "tops_of", params := a, body := FuncBody.stmts b, scope := s, globals := 3, closure := [], defaults := Value.none, kwdefaults := Value.none, pyModule := Value.str (Str.ofString "paperhold.decimals") 252, code := Value.ref 198 } }
noncomputable def o237 : Params → Obj := fun P => { cls := Value.type "tuple", data := Data.seq #[] }
noncomputable def o238 : Params → Obj := fun P => { cls := Value.none, data := Data.fields #[] }
noncomputable def o239 : Params → Obj := fun P => { cls := Value.type "tuple", data := Data.seq #[Value.str (Str.ofString "values") 425, Value.str (Str.ofString "tops") 426, Value.str (Str.ofString "places") 427] }
noncomputable def o240 : Params → Obj := fun P => { cls := Value.type "tuple", data := Data.seq #[] }
noncomputable def o241 : Params → Obj := fun P => lit3 (A := fA (sAt 12)) (B := fB (sAt 12)) (S := fS (sAt 12)) (by conv => lhs; whnf) (by conv => lhs; whnf) (by conv => lhs; whnf) fun a b s => { cls := Value.none, data := Data.func { name := Str.ofString "sum_of", qualname := Str.ofString "sum_of", params := a, body := FuncBody.stmts b, scope := s, globals := 0, closure := [], defaults := Value.none, kwdefaults := Value.none } }
noncomputable def o242 : Params → Obj := fun P => { cls := Value.type "code", data := Data.fields #[Value.str (Str.ofString "sum_of") 422, Value.str (Str.ofString "sum_of") 423, Value.str (Str.ofString "/claim/cut.py") 424, Value.int 92 0, Value.int 1 0, Value.int 0 0, Value.int 0 0, Value.int 3 0, Value.ref 200, Value.bool true, Value.int 181 0, Value.ref 201, Value.none, Value.ref 202, Value.ref 203, Value.ref 204, Value.int 428 0, Value.int 92 0, Value.str (Str.ofString "/claim/cut.py") 429] }
noncomputable def o243 : Params → Obj := fun P => lit3 (A := fA (sAt 12)) (B := fB (sAt 12)) (S := fS (sAt 12)) (by conv => lhs; whnf) (by conv => lhs; whnf) (by conv => lhs; whnf) fun a b s => { cls := Value.type "function", data := Data.func { name := Str.ofString "sum_of", qualname := Str.ofString "sum_of", params := a, body := FuncBody.stmts b, scope := s, globals := 3, closure := [], defaults := Value.none, kwdefaults := Value.none, pyModule := Value.str (Str.ofString "paperhold.decimals") 252, code := Value.ref 205 } }
noncomputable def o244 : Params → Obj := fun P => { cls := Value.type "tuple", data := Data.seq #[] }
noncomputable def o245 : Params → Obj := fun P => { cls := Value.none, data := Data.fields #[] }
noncomputable def o246 : Params → Obj := fun P => { cls := Value.type "tuple", data := Data.seq #[Value.str (Str.ofString "values") 434, Value.str (Str.ofString "best") 435, Value.str (Str.ofString "value") 436] }
noncomputable def o247 : Params → Obj := fun P => { cls := Value.type "tuple", data := Data.seq #[] }
noncomputable def o248 : Params → Obj := fun P => lit3 (A := fA (sAt 13)) (B := fB (sAt 13)) (S := fS (sAt 13)) (by conv => lhs; whnf) (by conv => lhs; whnf) (by conv => lhs; whnf) fun a b s => { cls := Value.none, data := Data.func { name := Str.ofString "least", qualname := Str.ofString "least", params := a, body := FuncBody.stmts b, scope := s, globals := 0, closure := [], defaults := Value.none, kwdefaults := Value.none } }
noncomputable def o249 : Params → Obj := fun P => { cls := Value.type "code", data := Data.fields #[Value.str (Str.ofString "least") 431, Value.str (Str.ofString "least") 432, Value.str (Str.ofString "/claim/cut.py") 433, Value.int 95 0, Value.int 1 0, Value.int 0 0, Value.int 0 0, Value.int 3 0, Value.ref 207, Value.bool true, Value.int 181 0, Value.ref 208, Value.none, Value.ref 209, Value.ref 210, Value.ref 211, Value.int 437 0, Value.int 95 0, Value.str (Str.ofString "/claim/cut.py") 438] }
noncomputable def o250 : Params → Obj := fun P => lit3 (A := fA (sAt 13)) (B := fB (sAt 13)) (S := fS (sAt 13)) (by conv => lhs; whnf) (by conv => lhs; whnf) (by conv => lhs; whnf) fun a b s => { cls := Value.type "function", data := Data.func { name := Str.ofString "least", qualname := Str.ofString "least", params := a, body := FuncBody.stmts b, scope := s, globals := 3, closure := [], defaults := Value.none, kwdefaults := Value.none, pyModule := Value.str (Str.ofString "paperhold.decimals") 252, code := Value.ref 212 } }
noncomputable def o251 : Params → Obj := fun P => { cls := Value.type "tuple", data := Data.seq #[] }
noncomputable def o252 : Params → Obj := fun P => { cls := Value.none, data := Data.fields #[] }
noncomputable def o253 : Params → Obj := fun P => { cls := Value.type "tuple", data := Data.seq #[Value.str (Str.ofString "values") 443, Value.str (Str.ofString "best") 444, Value.str (Str.ofString "value") 445] }
noncomputable def o254 : Params → Obj := fun P => { cls := Value.type "tuple", data := Data.seq #[] }
noncomputable def o255 : Params → Obj := fun P => lit3 (A := fA (sAt 14)) (B := fB (sAt 14)) (S := fS (sAt 14)) (by conv => lhs; whnf) (by conv => lhs; whnf) (by conv => lhs; whnf) fun a b s => { cls := Value.none, data := Data.func { name := Str.ofString "greatest", qualname := Str.ofString "greatest", params := a, body := FuncBody.stmts b, scope := s, globals := 0, closure := [], defaults := Value.none, kwdefaults := Value.none } }
noncomputable def o256 : Params → Obj := fun P => { cls := Value.type "code", data := Data.fields #[Value.str (Str.ofString "greatest") 440, Value.str (Str.ofString "greatest") 441, Value.str (Str.ofString "/claim/cut.py") 442, Value.int 103 0, Value.int 1 0, Value.int 0 0, Value.int 0 0, Value.int 3 0, Value.ref 214, Value.bool true, Value.int 181 0, Value.ref 215, Value.none, Value.ref 216, Value.ref 217, Value.ref 218, Value.int 446 0, Value.int 103 0, Value.str (Str.ofString "/claim/cut.py") 447] }
noncomputable def o257 : Params → Obj := fun P => lit3 (A := fA (sAt 14)) (B := fB (sAt 14)) (S := fS (sAt 14)) (by conv => lhs; whnf) (by conv => lhs; whnf) (by conv => lhs; whnf) fun a b s => { cls := Value.type "function", data := Data.func { name := Str.ofString "greatest", qualname := Str.ofString "greatest", params := a, body := FuncBody.stmts b, scope := s, globals := 3, closure := [], defaults := Value.none, kwdefaults := Value.none, pyModule := Value.str (Str.ofString "paperhold.decimals") 252, code := Value.ref 219 } }
noncomputable def o258 : Params → Obj := fun P => { cls := Value.type "tuple", data := Data.seq #[] }
noncomputable def o259 : Params → Obj := fun P => { cls := Value.none, data := Data.fields #[] }
noncomputable def o260 : Params → Obj := fun P => { cls := Value.type "tuple", data := Data.seq #[Value.str (Str.ofString "value") 452, Value.str (Str.ofString "low") 453, Value.str (Str.ofString "high") 454] }
noncomputable def o261 : Params → Obj := fun P => { cls := Value.type "tuple", data := Data.seq #[] }
noncomputable def o262 : Params → Obj := fun P => lit3 (A := fA (sAt 15)) (B := fB (sAt 15)) (S := fS (sAt 15)) (by conv => lhs; whnf) (by conv => lhs; whnf) (by conv => lhs; whnf) fun a b s => { cls := Value.none, data := Data.func { name := Str.ofString "clamped", qualname := Str.ofString "clamped", params := a, body := FuncBody.stmts b, scope := s, globals := 0, closure := [], defaults := Value.none, kwdefaults := Value.none } }
noncomputable def o263 : Params → Obj := fun P => { cls := Value.type "code", data := Data.fields #[Value.str (Str.ofString "clamped") 449, Value.str (Str.ofString "clamped") 450, Value.str (Str.ofString "/claim/cut.py") 451, Value.int 111 0, Value.int 3 0, Value.int 0 0, Value.int 0 0, Value.int 3 0, Value.ref 221, Value.bool true, Value.int 181 0, Value.ref 222, Value.none, Value.ref 223, Value.ref 224, Value.ref 225, Value.int 455 0, Value.int 111 0, Value.str (Str.ofString "/claim/cut.py") 456] }
noncomputable def o264 : Params → Obj := fun P => lit3 (A := fA (sAt 15)) (B := fB (sAt 15)) (S := fS (sAt 15)) (by conv => lhs; whnf) (by conv => lhs; whnf) (by conv => lhs; whnf) fun a b s => { cls := Value.type "function", data := Data.func { name := Str.ofString "clamped", qualname := Str.ofString "clamped", params := a, body := FuncBody.stmts b, scope := s, globals := 3, closure := [], defaults := Value.none, kwdefaults := Value.none, pyModule := Value.str (Str.ofString "paperhold.decimals") 252, code := Value.ref 226 } }
noncomputable def o265 : Params → Obj := fun P => { cls := Value.type "dict", data := Data.dict #[{ hash := PyData.keyHash P (Str.ofString "__name__"), key := Value.str (Str.ofString "__name__") 165, val := Value.str (Str.ofString "paperhold.objects") 458 }, { hash := PyData.keyHash P (Str.ofString "__doc__"), key := Value.str (Str.ofString "__doc__") 166, val := Value.none }, { hash := PyData.keyHash P (Str.ofString "__package__"), key := Value.str (Str.ofString "__package__") 167, val := Value.none }, { hash := PyData.keyHash P (Str.ofString "__loader__"), key := Value.str (Str.ofString "__loader__") 168, val := Value.builtin "__main__.__loader__#opaque" }, { hash := PyData.keyHash P (Str.ofString "__spec__"), key := Value.str (Str.ofString "__spec__") 169, val := Value.none }, { hash := PyData.keyHash P (Str.ofString "__annotations__"), key := Value.str (Str.ofString "__annotations__") 170, val := Value.ref 6 }, { hash := PyData.keyHash P (Str.ofString "__builtins__"), key := Value.str (Str.ofString "__builtins__") 171, val := Value.ref 4 }, { hash := PyData.keyHash P (Str.ofString "__file__"), key := Value.str (Str.ofString "__file__") 173, val := Value.str (Str.ofString "/claim/cut.py") 172 }, { hash := PyData.keyHash P (Str.ofString "__cached__"), key := Value.str (Str.ofString "__cached__") 174, val := Value.none }, { hash := PyData.keyHash P (Str.ofString "_wall"), key := Value.str (Str.ofString "_wall") 193, val := Value.ref 21 }, { hash := PyData.keyHash P (Str.ofString "PaperError"), key := Value.str (Str.ofString "PaperError") 235, val := Value.ref 46 }, { hash := PyData.keyHash P (Str.ofString "PaintFault"), key := Value.str (Str.ofString "PaintFault") 251, val := Value.ref 59 }, { hash := PyData.keyHash P (Str.ofString "Decimal"), key := Value.str (Str.ofString "Decimal") 374, val := Value.ref 155 }, { hash := PyData.keyHash P (Str.ofString "sign_text"), key := Value.str (Str.ofString "sign_text") 381, val := Value.ref 166 }, { hash := PyData.keyHash P (Str.ofString "sign_of"), key := Value.str (Str.ofString "sign_of") 388, val := Value.ref 173 }, { hash := PyData.keyHash P (Str.ofString "rounded_quotient"), key := Value.str (Str.ofString "rounded_quotient") 397, val := Value.ref 180 }, { hash := PyData.keyHash P (Str.ofString "decimal_of"), key := Value.str (Str.ofString "decimal_of") 404, val := Value.ref 187 }, { hash := PyData.keyHash P (Str.ofString "at_one_scale"), key := Value.str (Str.ofString "at_one_scale") 415, val := Value.ref 194 }, { hash := PyData.keyHash P (Str.ofString "tops_of"), key := Value.str (Str.ofString "tops_of") 421, val := Value.ref 199 }, { hash := PyData.keyHash P (Str.ofString "sum_of"), key := Value.str (Str.ofString "sum_of") 430, val := Value.ref 206 }, { hash := PyData.keyHash P (Str.ofString "least"), key := Value.str (Str.ofString "least") 439, val := Value.ref 213 }, { hash := PyData.keyHash P (Str.ofString "greatest"), key := Value.str (Str.ofString "greatest") 448, val := Value.ref 220 }, { hash := PyData.keyHash P (Str.ofString "clamped"), key := Value.str (Str.ofString "clamped") 457, val := Value.ref 227 }, { hash := PyData.keyHash P (Str.ofString "Name"), key := Value.str (Str.ofString "Name") 488, val := Value.ref 244 }, { hash := PyData.keyHash P (Str.ofString "String"), key := Value.str (Str.ofString "String") 519, val := Value.ref 266 }, { hash := PyData.keyHash P (Str.ofString "Stream"), key := Value.str (Str.ofString "Stream") 550, val := Value.ref 287 }] 26 }
noncomputable def o266 : Params → Obj := fun P => { cls := Value.none, data := Data.fields #[Value.int 1 0, Value.int 0 0, Value.ref 20, Value.int 5 0, Value.int 0 0, Value.ref 27, Value.int 14 0, Value.int 0 0, Value.ref 55, Value.int 17 0, Value.int 0 0, Value.ref 67, Value.int 67 0, Value.int 0 0, Value.ref 165, Value.int 69 0, Value.int 0 0, Value.ref 172, Value.int 73 0, Value.int 0 0, Value.ref 179, Value.int 76 0, Value.int 0 0, Value.ref 186, Value.int 82 0, Value.int 0 0, Value.ref 193, Value.int 87 0, Value.int 0 0, Value.ref 198, Value.int 92 0, Value.int 0 0, Value.ref 205, Value.int 95 0, Value.int 0 0, Value.ref 212, Value.int 103 0, Value.int 0 0, Value.ref 219, Value.int 111 0, Value.int 0 0, Value.ref 226, Value.int 116 0, Value.int 0 0, Value.ref 233, Value.int 120 0, Value.int 0 0, Value.ref 254, Value.int 125 0, Value.int 0 0, Value.ref 276] }
noncomputable def o267 : Params → Obj := fun P => { cls := Value.type "tuple", data := Data.seq #[] }
noncomputable def o268 : Params → Obj := fun P => { cls := Value.type "builtin_function_or_method", data := Data.fields #[Value.builtin "type.__prepare__", Value.type "type"] }
noncomputable def o269 : Params → Obj := fun P => { cls := Value.type "dict", data := Data.dict #[{ hash := PyData.keyHash P (Str.ofString "__module__"), key := Value.str (Str.ofString "__module__") 467, val := Value.str (Str.ofString "paperhold.objects") 458 }, { hash := PyData.keyHash P (Str.ofString "__qualname__"), key := Value.str (Str.ofString "__qualname__") 469, val := Value.str (Str.ofString "Name") 468 }, { hash := PyData.keyHash P (Str.ofString "__firstlineno__"), key := Value.str (Str.ofString "__firstlineno__") 471, val := Value.int 116 470 }, { hash := PyData.keyHash P (Str.ofString "__init__"), key := Value.str (Str.ofString "__init__") 479, val := Value.ref 241 }, { hash := PyData.keyHash P (Str.ofString "__static_attributes__"), key := Value.str (Str.ofString "__static_attributes__") 481, val := Value.ref 242 }] 5 }
noncomputable def o270 : Params → Obj := fun P => { cls := Value.type "tuple", data := Data.seq #[] }
noncomputable def o271 : Params → Obj := fun P => { cls := Value.none, data := Data.fields #[Value.int 118 0, Value.int 4 0, Value.ref 240] }
noncomputable def o272 : Params → Obj := fun P => { cls := Value.type "code", data := Data.fields #[Value.str (Str.ofString "Name") 462, Value.str (Str.ofString "Name") 463, Value.str (Str.ofString "/claim/cut.py") 464, Value.int 116 0, Value.int 0 0, Value.int 0 0, Value.int 0 0, Value.int 0 0, Value.ref 231, Value.bool false, Value.int 181 0, Value.ref 232, Value.none, Value.none, Value.none, Value.none, Value.int 465 0, Value.int 116 0, Value.str (Str.ofString "/claim/cut.py") 466] }
noncomputable def o273 : Params → Obj := fun P => { cls := Value.type "frame", slots := #[some (Value.ref 233), some (Value.ref 3), some (Value.ref 230), none, some (Value.str (Str.ofString "paperhold.objects") 458), none, some (Value.ref 0)] }
noncomputable def o274 : Params → Obj := fun P => { cls := Value.type "tuple", data := Data.seq #[] }
noncomputable def o275 : Params → Obj := fun P => { cls := Value.none, data := Data.fields #[] }
noncomputable def o276 : Params → Obj := fun P => { cls := Value.type "tuple", data := Data.seq #[Value.str (Str.ofString "self") 475, Value.str (Str.ofString "text") 476] }
noncomputable def o277 : Params → Obj := fun P => { cls := Value.type "tuple", data := Data.seq #[] }
noncomputable def o278 : Params → Obj := fun P => lit3 (A := fA (mAt 17 0)) (B := fB (mAt 17 0)) (S := fS (mAt 17 0)) (by conv => lhs; whnf) (by conv => lhs; whnf) (by conv => lhs; whnf) fun a b s => { cls := Value.none, data := Data.func { name := Str.ofString "__init__", qualname := Str.ofString "Name.__init__", params := a, body := FuncBody.stmts b, scope := s, globals := 0, closure := [], defaults := Value.none, kwdefaults := Value.none } }
noncomputable def o279 : Params → Obj := fun P => { cls := Value.type "code", data := Data.fields #[Value.str (Str.ofString "__init__") 472, Value.str (Str.ofString "Name.__init__") 473, Value.str (Str.ofString "/claim/cut.py") 474, Value.int 118 0, Value.int 2 0, Value.int 0 0, Value.int 0 0, Value.int 3 0, Value.ref 235, Value.bool true, Value.int 181 0, Value.ref 236, Value.none, Value.ref 237, Value.ref 238, Value.ref 239, Value.int 477 0, Value.int 118 0, Value.str (Str.ofString "/claim/cut.py") 478] }
noncomputable def o280 : Params → Obj := fun P => lit3 (A := fA (mAt 17 0)) (B := fB (mAt 17 0)) (S := fS (mAt 17 0)) (by conv => lhs; whnf) (by conv => lhs; whnf) (by conv => lhs; whnf) fun a b s => { cls := Value.type "function", data := Data.func { name := Str.ofString "__init__", qualname := Str.ofString "Name.__init__", params := a, body := FuncBody.stmts b, scope := s, globals := 3, closure := [], defaults := Value.none, kwdefaults := Value.none, pyModule := Value.str (Str.ofString "paperhold.objects") 458, code := Value.ref 240 } }
noncomputable def o281 : Params → Obj := fun P => { cls := Value.type "tuple", data := Data.seq #[Value.str (Str.ofString "text") 480] }
noncomputable def o282 : Params → Obj := fun P => { cls := Value.type "dict", data := Data.dict #[{ hash := PyData.keyHash P (Str.ofString "__module__"), key := Value.str (Str.ofString "__module__") 467, val := Value.str (Str.ofString "paperhold.objects") 458 }, { hash := PyData.keyHash P (Str.ofString "__firstlineno__"), key := Value.str (Str.ofString "__firstlineno__") 471, val := Value.int 116 470 }, { hash := PyData.keyHash P (Str.ofString "__init__"), key := Value.str (Str.ofString "__init__") 479, val := Value.ref 241 }, { hash := PyData.keyHash P (Str.ofString "__static_attributes__"), key := Value.str (Str.ofString "__static_attributes__") 481, val := Value.ref 242 }, { hash := PyData.keyHash P (Str.ofString "__dict__"), key := Value.str (Str.ofString "__dict__") 483, val := Value.ref 245 }, { hash := PyData.keyHash P (Str.ofString "__weakref__"), key := Value.str (Str.ofString "__weakref__") 485, val := Value.ref 246 }, { hash := PyData.keyHash P (Str.ofString "__doc__"), key := Value.str (Str.ofString "__doc__") 486, val := Value.none }] 4 }
noncomputable def o283 : Params → Obj := fun P => { cls := Value.type "type", data := Data.cls { name := Str.ofString "Name", bases := [Value.type "object"], mro := [Value.ref 244, Value.type "object"], ns := 243, qualname := Str.ofString "Name" }, slots := #[none, none, some (Value.str (Str.ofString "Name") 460), some (Value.str (Str.ofString "Name") 468), some (Value.builtin "object.__new__"), some (Value.bool true)] }
noncomputable def o284 : Params → Obj := fun P => { cls := Value.type "getset_descriptor", data := Data.fields #[Value.str (Str.ofString "__dict__") 482, Value.ref 244, Value.builtin "function.__dict__", Value.builtin "function.__dict__#set"] }
noncomputable def o285 : Params → Obj := fun P => { cls := Value.type "getset_descriptor", data := Data.fields #[Value.str (Str.ofString "__weakref__") 484, Value.ref 244, Value.builtin "ExceptionGroup.__weakref__", Value.none] }
noncomputable def o286 : Params → Obj := fun P => { cls := Value.type "super", data := Data.fields #[Value.ref 244, Value.ref 244, Value.ref 244] }
noncomputable def o287 : Params → Obj := fun P => { cls := Value.type "builtin_function_or_method", data := Data.fields #[Value.builtin "object.__init_subclass__", Value.ref 244] }
noncomputable def o288 : Params → Obj := fun P => { cls := Value.type "tuple", data := Data.seq #[] }
noncomputable def o289 : Params → Obj := fun P => { cls := Value.type "builtin_function_or_method", data := Data.fields #[Value.builtin "type.__prepare__", Value.type "type"] }
noncomputable def o290 : Params → Obj := fun P => { cls := Value.type "dict", data := Data.dict #[{ hash := PyData.keyHash P (Str.ofString "__module__"), key := Value.str (Str.ofString "__module__") 496, val := Value.str (Str.ofString "paperhold.objects") 458 }, { hash := PyData.keyHash P (Str.ofString "__qualname__"), key := Value.str (Str.ofString "__qualname__") 498, val := Value.str (Str.ofString "String") 497 }, { hash := PyData.keyHash P (Str.ofString "__firstlineno__"), key := Value.str (Str.ofString "__firstlineno__") 500, val := Value.int 120 499 }, { hash := PyData.keyHash P (Str.ofString "__init__"), key := Value.str (Str.ofString "__init__") 509, val := Value.ref 263 }, { hash := PyData.keyHash P (Str.ofString "__static_attributes__"), key := Value.str (Str.ofString "__static_attributes__") 512, val := Value.ref 264 }] 5 }
noncomputable def o291 : Params → Obj := fun P => { cls := Value.type "tuple", data := Data.seq #[] }
noncomputable def o292 : Params → Obj := fun P => { cls := Value.none, data := Data.fields #[Value.int 122 0, Value.int 4 0, Value.ref 262] }
noncomputable def o293 : Params → Obj := fun P => { cls := Value.type "code", data := Data.fields #[Value.str (Str.ofString "String") 491, Value.str (Str.ofString "String") 492, Value.str (Str.ofString "/claim/cut.py") 493, Value.int 120 0, Value.int 0 0, Value.int 0 0, Value.int 0 0, Value.int 0 0, Value.ref 252, Value.bool false, Value.int 181 0, Value.ref 253, Value.none, Value.none, Value.none, Value.none, Value.int 494 0, Value.int 120 0, Value.str (Str.ofString "/claim/cut.py") 495] }
noncomputable def o294 : Params → Obj := fun P => { cls := Value.type "frame", slots := #[some (Value.ref 254), some (Value.ref 3), some (Value.ref 251), none, some (Value.str (Str.ofString "paperhold.objects") 458), none, some (Value.ref 0)] }
noncomputable def o295 : Params → Obj := fun P => { cls := Value.type "tuple", data := Data.seq #[Value.bool false] }
noncomputable def o296 : Params → Obj := fun P => { cls := Value.type "tuple", data := Data.seq #[] }
noncomputable def o297 : Params → Obj := fun P => { cls := Value.none, data := Data.fields #[] }
noncomputable def o298 : Params → Obj := fun P => { cls := Value.type "tuple", data := Data.seq #[Value.str (Str.ofString "self") 504, Value.str (Str.ofString "octets") 505, Value.str (Str.ofString "is_hex") 506] }
noncomputable def o299 : Params → Obj := fun P => { cls := Value.type "tuple", data := Data.seq #[] }
noncomputable def o300 : Params → Obj := fun P => lit3 (A := fA (mAt 18 0)) (B := fB (mAt 18 0)) (S := fS (mAt 18 0)) (by conv => lhs; whnf) (by conv => lhs; whnf) (by conv => lhs; whnf) fun a b s => { cls := Value.none, data := Data.func { name := Str.ofString "__init__", qualname := Str.ofString "String.__init__", params := a, body := FuncBody.stmts b, scope := s, globals := 0, closure := [], defaults := Value.none, kwdefaults := Value.none } }
noncomputable def o301 : Params → Obj := fun P => { cls := Value.type "code", data := Data.fields #[Value.str (Str.ofString "__init__") 501, Value.str (Str.ofString "String.__init__") 502, Value.str (Str.ofString "/claim/cut.py") 503, Value.int 122 0, Value.int 3 0, Value.int 0 0, Value.int 0 0, Value.int 3 0, Value.ref 257, Value.bool true, Value.int 181 0, Value.ref 258, Value.none, Value.ref 259, Value.ref 260, Value.ref 261, Value.int 507 0, Value.int 122 0, Value.str (Str.ofString "/claim/cut.py") 508] }
noncomputable def o302 : Params → Obj := fun P => lit3 (A := fA (mAt 18 0)) (B := fB (mAt 18 0)) (S := fS (mAt 18 0)) (by conv => lhs; whnf) (by conv => lhs; whnf) (by conv => lhs; whnf) fun a b s => { cls := Value.type "function", data := Data.func { name := Str.ofString "__init__", qualname := Str.ofString "String.__init__", params := a, body := FuncBody.stmts b, scope := s, globals := 3, closure := [], defaults := Value.ref 256, kwdefaults := Value.none, pyModule := Value.str (Str.ofString "paperhold.objects") 458, code := Value.ref 262 } }
noncomputable def o303 : Params → Obj := fun P => { cls := Value.type "tuple", data := Data.seq #[Value.str (Str.ofString "is_hex") 510, Value.str (Str.ofString "octets") 511] }
noncomputable def o304 : Params → Obj := fun P => { cls := Value.type "dict", data := Data.dict #[{ hash := PyData.keyHash P (Str.ofString "__module__"), key := Value.str (Str.ofString "__module__") 496, val := Value.str (Str.ofString "paperhold.objects") 458 }, { hash := PyData.keyHash P (Str.ofString "__firstlineno__"), key := Value.str (Str.ofString "__firstlineno__") 500, val := Value.int 120 499 }, { hash := PyData.keyHash P (Str.ofString "__init__"), key := Value.str (Str.ofString "__init__") 509, val := Value.ref 263 }, { hash := PyData.keyHash P (Str.ofString "__static_attributes__"), key := Value.str (Str.ofString "__static_attributes__") 512, val := Value.ref 264 }, { hash := PyData.keyHash P (Str.ofString "__dict__"), key := Value.str (Str.ofString "__dict__") 514, val := Value.ref 267 }, { hash := PyData.keyHash P (Str.ofString "__weakref__"), key := Value.str (Str.ofString "__weakref__") 516, val := Value.ref 268 }, { hash := PyData.keyHash P (Str.ofString "__doc__"), key := Value.str (Str.ofString "__doc__") 517, val := Value.none }] 4 }
noncomputable def o305 : Params → Obj := fun P => { cls := Value.type "type", data := Data.cls { name := Str.ofString "String", bases := [Value.type "object"], mro := [Value.ref 266, Value.type "object"], ns := 265, qualname := Str.ofString "String" }, slots := #[none, none, some (Value.str (Str.ofString "String") 489), some (Value.str (Str.ofString "String") 497), some (Value.builtin "object.__new__"), some (Value.bool true)] }
noncomputable def o306 : Params → Obj := fun P => { cls := Value.type "getset_descriptor", data := Data.fields #[Value.str (Str.ofString "__dict__") 513, Value.ref 266, Value.builtin "function.__dict__", Value.builtin "function.__dict__#set"] }
noncomputable def o307 : Params → Obj := fun P => { cls := Value.type "getset_descriptor", data := Data.fields #[Value.str (Str.ofString "__weakref__") 515, Value.ref 266, Value.builtin "ExceptionGroup.__weakref__", Value.none] }
noncomputable def o308 : Params → Obj := fun P => { cls := Value.type "super", data := Data.fields #[Value.ref 266, Value.ref 266, Value.ref 266] }
noncomputable def o309 : Params → Obj := fun P => { cls := Value.type "builtin_function_or_method", data := Data.fields #[Value.builtin "object.__init_subclass__", Value.ref 266] }
noncomputable def o310 : Params → Obj := fun P => { cls := Value.type "tuple", data := Data.seq #[] }
noncomputable def o311 : Params → Obj := fun P => { cls := Value.type "builtin_function_or_method", data := Data.fields #[Value.builtin "type.__prepare__", Value.type "type"] }
noncomputable def o312 : Params → Obj := fun P => { cls := Value.type "dict", data := Data.dict #[{ hash := PyData.keyHash P (Str.ofString "__module__"), key := Value.str (Str.ofString "__module__") 527, val := Value.str (Str.ofString "paperhold.objects") 458 }, { hash := PyData.keyHash P (Str.ofString "__qualname__"), key := Value.str (Str.ofString "__qualname__") 529, val := Value.str (Str.ofString "Stream") 528 }, { hash := PyData.keyHash P (Str.ofString "__firstlineno__"), key := Value.str (Str.ofString "__firstlineno__") 531, val := Value.int 125 530 }, { hash := PyData.keyHash P (Str.ofString "__init__"), key := Value.str (Str.ofString "__init__") 540, val := Value.ref 284 }, { hash := PyData.keyHash P (Str.ofString "__static_attributes__"), key := Value.str (Str.ofString "__static_attributes__") 543, val := Value.ref 285 }] 5 }
noncomputable def o313 : Params → Obj := fun P => { cls := Value.type "tuple", data := Data.seq #[] }
noncomputable def o314 : Params → Obj := fun P => { cls := Value.none, data := Data.fields #[Value.int 127 0, Value.int 4 0, Value.ref 283] }
noncomputable def o315 : Params → Obj := fun P => { cls := Value.type "code", data := Data.fields #[Value.str (Str.ofString "Stream") 522, Value.str (Str.ofString "Stream") 523, Value.str (Str.ofString "/claim/cut.py") 524, Value.int 125 0, Value.int 0 0, Value.int 0 0, Value.int 0 0, Value.int 0 0, Value.ref 274, Value.bool false, Value.int 181 0, Value.ref 275, Value.none, Value.none, Value.none, Value.none, Value.int 525 0, Value.int 125 0, Value.str (Str.ofString "/claim/cut.py") 526] }
noncomputable def o316 : Params → Obj := fun P => { cls := Value.type "frame", slots := #[some (Value.ref 276), some (Value.ref 3), some (Value.ref 273), none, some (Value.str (Str.ofString "paperhold.objects") 458), none, some (Value.ref 0)] }
noncomputable def o317 : Params → Obj := fun P => { cls := Value.type "tuple", data := Data.seq #[] }
noncomputable def o318 : Params → Obj := fun P => { cls := Value.none, data := Data.fields #[] }
noncomputable def o319 : Params → Obj := fun P => { cls := Value.type "tuple", data := Data.seq #[Value.str (Str.ofString "self") 535, Value.str (Str.ofString "head") 536, Value.str (Str.ofString "octets") 537] }
noncomputable def o320 : Params → Obj := fun P => { cls := Value.type "tuple", data := Data.seq #[] }
noncomputable def o321 : Params → Obj := fun P => lit3 (A := fA (mAt 19 0)) (B := fB (mAt 19 0)) (S := fS (mAt 19 0)) (by conv => lhs; whnf) (by conv => lhs; whnf) (by conv => lhs; whnf) fun a b s => { cls := Value.none, data := Data.func { name := Str.ofString "__init__", qualname := Str.ofString "Stream.__init__", params := a, body := FuncBody.stmts b, scope := s, globals := 0, closure := [], defaults := Value.none, kwdefaults := Value.none } }
noncomputable def o322 : Params → Obj := fun P => { cls := Value.type "code", data := Data.fields #[Value.str (Str.ofString "__init__") 532, Value.str (Str.ofString "Stream.__init__") 533, Value.str (Str.ofString "/claim/cut.py") 534, Value.int 127 0, Value.int 3 0, Value.int 0 0, Value.int 0 0, Value.int 3 0, Value.ref 278, Value.bool true, Value.int 181 0, Value.ref 279, Value.none, Value.ref 280, Value.ref 281, Value.ref 282, Value.int 538 0, Value.int 127 0, Value.str (Str.ofString "/claim/cut.py") 539] }
noncomputable def o323 : Params → Obj := fun P => lit3 (A := fA (mAt 19 0)) (B := fB (mAt 19 0)) (S := fS (mAt 19 0)) (by conv => lhs; whnf) (by conv => lhs; whnf) (by conv => lhs; whnf) fun a b s => { cls := Value.type "function", data := Data.func { name := Str.ofString "__init__", qualname := Str.ofString "Stream.__init__", params := a, body := FuncBody.stmts b, scope := s, globals := 3, closure := [], defaults := Value.none, kwdefaults := Value.none, pyModule := Value.str (Str.ofString "paperhold.objects") 458, code := Value.ref 283 } }
noncomputable def o324 : Params → Obj := fun P => { cls := Value.type "tuple", data := Data.seq #[Value.str (Str.ofString "head") 541, Value.str (Str.ofString "octets") 542] }
noncomputable def o325 : Params → Obj := fun P => { cls := Value.type "dict", data := Data.dict #[{ hash := PyData.keyHash P (Str.ofString "__module__"), key := Value.str (Str.ofString "__module__") 527, val := Value.str (Str.ofString "paperhold.objects") 458 }, { hash := PyData.keyHash P (Str.ofString "__firstlineno__"), key := Value.str (Str.ofString "__firstlineno__") 531, val := Value.int 125 530 }, { hash := PyData.keyHash P (Str.ofString "__init__"), key := Value.str (Str.ofString "__init__") 540, val := Value.ref 284 }, { hash := PyData.keyHash P (Str.ofString "__static_attributes__"), key := Value.str (Str.ofString "__static_attributes__") 543, val := Value.ref 285 }, { hash := PyData.keyHash P (Str.ofString "__dict__"), key := Value.str (Str.ofString "__dict__") 545, val := Value.ref 288 }, { hash := PyData.keyHash P (Str.ofString "__weakref__"), key := Value.str (Str.ofString "__weakref__") 547, val := Value.ref 289 }, { hash := PyData.keyHash P (Str.ofString "__doc__"), key := Value.str (Str.ofString "__doc__") 548, val := Value.none }] 4 }
noncomputable def o326 : Params → Obj := fun P => { cls := Value.type "type", data := Data.cls { name := Str.ofString "Stream", bases := [Value.type "object"], mro := [Value.ref 287, Value.type "object"], ns := 286, qualname := Str.ofString "Stream" }, slots := #[none, none, some (Value.str (Str.ofString "Stream") 520), some (Value.str (Str.ofString "Stream") 528), some (Value.builtin "object.__new__"), some (Value.bool true)] }
noncomputable def o327 : Params → Obj := fun P => { cls := Value.type "getset_descriptor", data := Data.fields #[Value.str (Str.ofString "__dict__") 544, Value.ref 287, Value.builtin "function.__dict__", Value.builtin "function.__dict__#set"] }
noncomputable def o328 : Params → Obj := fun P => { cls := Value.type "getset_descriptor", data := Data.fields #[Value.str (Str.ofString "__weakref__") 546, Value.ref 287, Value.builtin "ExceptionGroup.__weakref__", Value.none] }
noncomputable def o329 : Params → Obj := fun P => { cls := Value.type "super", data := Data.fields #[Value.ref 287, Value.ref 287, Value.ref 287] }
noncomputable def o330 : Params → Obj := fun P => { cls := Value.type "builtin_function_or_method", data := Data.fields #[Value.builtin "object.__init_subclass__", Value.ref 287] }
noncomputable def o331 : Params → Obj := fun P => { cls := Value.type "dict", data := Data.dict #[{ hash := PyData.keyHash P (Str.ofString "__name__"), key := Value.str (Str.ofString "__name__") 165, val := Value.str (Str.ofString "paperhold.colours") 618 }, { hash := PyData.keyHash P (Str.ofString "__doc__"), key := Value.str (Str.ofString "__doc__") 166, val := Value.none }, { hash := PyData.keyHash P (Str.ofString "__package__"), key := Value.str (Str.ofString "__package__") 167, val := Value.none }, { hash := PyData.keyHash P (Str.ofString "__loader__"), key := Value.str (Str.ofString "__loader__") 168, val := Value.builtin "__main__.__loader__#opaque" }, { hash := PyData.keyHash P (Str.ofString "__spec__"), key := Value.str (Str.ofString "__spec__") 169, val := Value.none }, { hash := PyData.keyHash P (Str.ofString "__annotations__"), key := Value.str (Str.ofString "__annotations__") 170, val := Value.ref 6 }, { hash := PyData.keyHash P (Str.ofString "__builtins__"), key := Value.str (Str.ofString "__builtins__") 171, val := Value.ref 4 }, { hash := PyData.keyHash P (Str.ofString "__file__"), key := Value.str (Str.ofString "__file__") 173, val := Value.str (Str.ofString "/claim/cut.py") 172 }, { hash := PyData.keyHash P (Str.ofString "__cached__"), key := Value.str (Str.ofString "__cached__") 174, val := Value.none }, { hash := PyData.keyHash P (Str.ofString "_wall"), key := Value.str (Str.ofString "_wall") 193, val := Value.ref 21 }, { hash := PyData.keyHash P (Str.ofString "PaperError"), key := Value.str (Str.ofString "PaperError") 235, val := Value.ref 46 }, { hash := PyData.keyHash P (Str.ofString "PaintFault"), key := Value.str (Str.ofString "PaintFault") 251, val := Value.ref 59 }, { hash := PyData.keyHash P (Str.ofString "Decimal"), key := Value.str (Str.ofString "Decimal") 374, val := Value.ref 155 }, { hash := PyData.keyHash P (Str.ofString "sign_text"), key := Value.str (Str.ofString "sign_text") 381, val := Value.ref 166 }, { hash := PyData.keyHash P (Str.ofString "sign_of"), key := Value.str (Str.ofString "sign_of") 388, val := Value.ref 173 }, { hash := PyData.keyHash P (Str.ofString "rounded_quotient"), key := Value.str (Str.ofString "rounded_quotient") 397, val := Value.ref 180 }, { hash := PyData.keyHash P (Str.ofString "decimal_of"), key := Value.str (Str.ofString "decimal_of") 404, val := Value.ref 187 }, { hash := PyData.keyHash P (Str.ofString "at_one_scale"), key := Value.str (Str.ofString "at_one_scale") 415, val := Value.ref 194 }, { hash := PyData.keyHash P (Str.ofString "tops_of"), key := Value.str (Str.ofString "tops_of") 421, val := Value.ref 199 }, { hash := PyData.keyHash P (Str.ofString "sum_of"), key := Value.str (Str.ofString "sum_of") 430, val := Value.ref 206 }, { hash := PyData.keyHash P (Str.ofString "least"), key := Value.str (Str.ofString "least") 439, val := Value.ref 213 }, { hash := PyData.keyHash P (Str.ofString "greatest"), key := Value.str (Str.ofString "greatest") 448, val := Value.ref 220 }, { hash := PyData.keyHash P (Str.ofString "clamped"), key := Value.str (Str.ofString "clamped") 457, val := Value.ref 227 }, { hash := PyData.keyHash P (Str.ofString "Name"), key := Value.str (Str.ofString "Name") 488, val := Value.ref 244 }, { hash := PyData.keyHash P (Str.ofString "String"), key := Value.str (Str.ofString "String") 519, val := Value.ref 266 }, { hash := PyData.keyHash P (Str.ofString "Stream"), key := Value.str (Str.ofString "Stream") 550, val := Value.ref 287 }, { hash := PyData.keyHash P (Str.ofString "Reference"), key := Value.str (Str.ofString "Reference") 588, val := Value.ref 315 }, { hash := PyData.keyHash P (Str.ofString "kind_of"), key := Value.str (Str.ofString "kind_of") 595, val := Value.ref 326 }, { hash := PyData.keyHash P (Str.ofString "is_number"), key := Value.str (Str.ofString "is_number") 602, val := Value.ref 333 }, { hash := PyData.keyHash P (Str.ofString "told_plain"), key := Value.str (Str.ofString "told_plain") 610, val := Value.ref 340 }, { hash := PyData.keyHash P (Str.ofString "told"), key := Value.str (Str.ofString "told") 616, val := Value.ref 345 }, { hash := PyData.keyHash P (Str.ofString "told_objects"), key := Value.str (Str.ofString "told_objects") 617, val := Value.ref 345 }, { hash := PyData.keyHash P (Str.ofString "Space"), key := Value.str (Str.ofString "Space") 670, val := Value.ref 371 }, { hash := PyData.keyHash P (Str.ofString "device_spaces"), key := Value.str (Str.ofString "device_spaces") 676, val := Value.ref 382 }, { hash := PyData.keyHash P (Str.ofString "device_space"), key := Value.str (Str.ofString "device_space") 683, val := Value.ref 389 }, { hash := PyData.keyHash P (Str.ofString "device_of_count"), key := Value.str (Str.ofString "device_of_count") 692, val := Value.ref 396 }, { hash := PyData.keyHash P (Str.ofString "cut_numbers"), key := Value.str (Str.ofString "cut_numbers") 698, val := Value.ref 401 }, { hash := PyData.keyHash P (Str.ofString "rest_of"), key := Value.str (Str.ofString "rest_of") 705, val := Value.ref 408 }, { hash := PyData.keyHash P (Str.ofString "device_rgb"), key := Value.str (Str.ofString "device_rgb") 711, val := Value.ref 413 }, { hash := PyData.keyHash P (Str.ofString "brightness"), key := Value.str (Str.ofString "brightness") 721, val := Value.ref 420 }, { hash := PyData.keyHash P (Str.ofString "device_gray"), key := Value.str (Str.ofString "device_gray") 729, val := Value.ref 427 }] 41 }
noncomputable def o332 : Params → Obj := fun P => { cls := Value.none, data := Data.fields #[Value.int 1 0, Value.int 0 0, Value.ref 20, Value.int 5 0, Value.int 0 0, Value.ref 27, Value.int 14 0, Value.int 0 0, Value.ref 55, Value.int 17 0, Value.int 0 0, Value.ref 67, Value.int 67 0, Value.int 0 0, Value.ref 165, Value.int 69 0, Value.int 0 0, Value.ref 172, Value.int 73 0, Value.int 0 0, Value.ref 179, Value.int 76 0, Value.int 0 0, Value.ref 186, Value.int 82 0, Value.int 0 0, Value.ref 193, Value.int 87 0, Value.int 0 0, Value.ref 198, Value.int 92 0, Value.int 0 0, Value.ref 205, Value.int 95 0, Value.int 0 0, Value.ref 212, Value.int 103 0, Value.int 0 0, Value.ref 219, Value.int 111 0, Value.int 0 0, Value.ref 226, Value.int 116 0, Value.int 0 0, Value.ref 233, Value.int 120 0, Value.int 0 0, Value.ref 254, Value.int 125 0, Value.int 0 0, Value.ref 276, Value.int 130 0, Value.int 0 0, Value.ref 297, Value.int 138 0, Value.int 0 0, Value.ref 325, Value.int 160 0, Value.int 0 0, Value.ref 332, Value.int 162 0, Value.int 0 0, Value.ref 339, Value.int 176 0, Value.int 0 0, Value.ref 344, Value.int 187 0, Value.int 0 0, Value.ref 351, Value.int 201 0, Value.int 0 0, Value.ref 381, Value.int 203 0, Value.int 0 0, Value.ref 388, Value.int 205 0, Value.int 0 0, Value.ref 395, Value.int 210 0, Value.int 0 0, Value.ref 400, Value.int 216 0, Value.int 0 0, Value.ref 407, Value.int 218 0, Value.int 0 0, Value.ref 412, Value.int 224 0, Value.int 0 0, Value.ref 419, Value.int 227 0, Value.int 0 0, Value.ref 426] }
noncomputable def o333 : Params → Obj := fun P => { cls := Value.type "tuple", data := Data.seq #[] }
noncomputable def o334 : Params → Obj := fun P => { cls := Value.type "builtin_function_or_method", data := Data.fields #[Value.builtin "type.__prepare__", Value.type "type"] }
noncomputable def o335 : Params → Obj := fun P => { cls := Value.type "dict", data := Data.dict #[{ hash := PyData.keyHash P (Str.ofString "__module__"), key := Value.str (Str.ofString "__module__") 558, val := Value.str (Str.ofString "paperhold.objects") 458 }, { hash := PyData.keyHash P (Str.ofString "__qualname__"), key := Value.str (Str.ofString "__qualname__") 560, val := Value.str (Str.ofString "Reference") 559 }, { hash := PyData.keyHash P (Str.ofString "__firstlineno__"), key := Value.str (Str.ofString "__firstlineno__") 562, val := Value.int 130 561 }, { hash := PyData.keyHash P (Str.ofString "__init__"), key := Value.str (Str.ofString "__init__") 571, val := Value.ref 305 }, { hash := PyData.keyHash P (Str.ofString "pair"), key := Value.str (Str.ofString "pair") 578, val := Value.ref 312 }, { hash := PyData.keyHash P (Str.ofString "__static_attributes__"), key := Value.str (Str.ofString "__static_attributes__") 581, val := Value.ref 313 }] 6 }
noncomputable def o336 : Params → Obj := fun P => { cls := Value.type "tuple", data := Data.seq #[] }
noncomputable def o337 : Params → Obj := fun P => { cls := Value.none, data := Data.fields #[Value.int 132 0, Value.int 4 0, Value.ref 304, Value.int 136 0, Value.int 4 0, Value.ref 311] }
noncomputable def o338 : Params → Obj := fun P => { cls := Value.type "code", data := Data.fields #[Value.str (Str.ofString "Reference") 553, Value.str (Str.ofString "Reference") 554, Value.str (Str.ofString "/claim/cut.py") 555, Value.int 130 0, Value.int 0 0, Value.int 0 0, Value.int 0 0, Value.int 0 0, Value.ref 295, Value.bool false, Value.int 181 0, Value.ref 296, Value.none, Value.none, Value.none, Value.none, Value.int 556 0, Value.int 130 0, Value.str (Str.ofString "/claim/cut.py") 557] }
noncomputable def o339 : Params → Obj := fun P => { cls := Value.type "frame", slots := #[some (Value.ref 297), some (Value.ref 3), some (Value.ref 294), none, some (Value.str (Str.ofString "paperhold.objects") 458), none, some (Value.ref 0)] }
noncomputable def o340 : Params → Obj := fun P => { cls := Value.type "tuple", data := Data.seq #[] }
noncomputable def o341 : Params → Obj := fun P => { cls := Value.none, data := Data.fields #[] }
noncomputable def o342 : Params → Obj := fun P => { cls := Value.type "tuple", data := Data.seq #[Value.str (Str.ofString "self") 566, Value.str (Str.ofString "number") 567, Value.str (Str.ofString "generation") 568] }
noncomputable def o343 : Params → Obj := fun P => { cls := Value.type "tuple", data := Data.seq #[] }
noncomputable def o344 : Params → Obj := fun P => lit3 (A := fA (mAt 20 0)) (B := fB (mAt 20 0)) (S := fS (mAt 20 0)) (by conv => lhs; whnf) (by conv => lhs; whnf) (by conv => lhs; whnf) fun a b s => { cls := Value.none, data := Data.func { name := Str.ofString "__init__", qualname := Str.ofString "Reference.__init__", params := a, body := FuncBody.stmts b, scope := s, globals := 0, closure := [], defaults := Value.none, kwdefaults := Value.none } }
noncomputable def o345 : Params → Obj := fun P => { cls := Value.type "code", data := Data.fields #[Value.str (Str.ofString "__init__") 563, Value.str (Str.ofString "Reference.__init__") 564, Value.str (Str.ofString "/claim/cut.py") 565, Value.int 132 0, Value.int 3 0, Value.int 0 0, Value.int 0 0, Value.int 3 0, Value.ref 299, Value.bool true, Value.int 181 0, Value.ref 300, Value.none, Value.ref 301, Value.ref 302, Value.ref 303, Value.int 569 0, Value.int 132 0, Value.str (Str.ofString "/claim/cut.py") 570] }
noncomputable def o346 : Params → Obj := fun P => lit3 (A := fA (mAt 20 0)) (B := fB (mAt 20 0)) (S := fS (mAt 20 0)) (by conv => lhs; whnf) (by conv => lhs; whnf) (by conv => lhs; whnf) fun a b s => { cls := Value.type "function", data := Data.func { name := Str.ofString "__init__", qualname := Str.ofString "Reference.__init__", params := a, body := FuncBody.stmts b, scope := s, globals := 3, closure := [], defaults := Value.none, kwdefaults := Value.none, pyModule := Value.str (Str.ofString "paperhold.objects") 458, code := Value.ref 304 } }
noncomputable def o347 : Params → Obj := fun P => { cls := Value.type "tuple", data := Data.seq #[] }
noncomputable def o348 : Params → Obj := fun P => { cls := Value.none, data := Data.fields #[] }
noncomputable def o349 : Params → Obj := fun P => { cls := Value.type "tuple", data := Data.seq #[Value.str (Str.ofString "self") 575] }
noncomputable def o350 : Params → Obj := fun P => { cls := Value.type "tuple", data := Data.seq #[] }
noncomputable def o351 : Params → Obj := fun P => lit3 (A := fA (mAt 20 1)) (B := fB (mAt 20 1)) (S := fS (mAt 20 1)) (by conv => lhs; whnf) (by conv => lhs; whnf) (by conv => lhs; whnf) fun a b s => { cls := Value.none, data := Data.func { name := Str.ofString "pair", qualname := Str.ofString "Reference.pair", params := a, body := FuncBody.stmts b, scope := s, globals := 0, closure := [], defaults := Value.none, kwdefaults := Value.none } }
noncomputable def o352 : Params → Obj := fun P => { cls := Value.type "code", data := Data.fields #[Value.str (Str.ofString "pair") 572, Value.str (Str.ofString "Reference.pair") 573, Value.str (Str.ofString "/claim/cut.py") 574, Value.int 136 0, Value.int 1 0, Value.int 0 0, Value.int 0 0, Value.int 3 0, Value.ref 306, Value.bool true, Value.int 181 0, Value.ref 307, Value.none, Value.ref 308, Value.ref 309, Value.ref 310, Value.int 576 0, Value.int 136 0, Value.str (Str.ofString "/claim/cut.py") 577] }
noncomputable def o353 : Params → Obj := fun P => lit3 (A := fA (mAt 20 1)) (B := fB (mAt 20 1)) (S := fS (mAt 20 1)) (by conv => lhs; whnf) (by conv => lhs; whnf) (by conv => lhs; whnf) fun a b s => { cls := Value.type "function", data := Data.func { name := Str.ofString "pair", qualname := Str.ofString "Reference.pair", params := a, body := FuncBody.stmts b, scope := s, globals := 3, closure := [], defaults := Value.none, kwdefaults := Value.none, pyModule := Value.str (Str.ofString "paperhold.objects") 458, code := Value.ref 311 } }
noncomputable def o354 : Params → Obj := fun P => { cls := Value.type "tuple", data := Data.seq #[Value.str (Str.ofString "generation") 579, Value.str (Str.ofString "number") 580] }
noncomputable def o355 : Params → Obj := fun P => { cls := Value.type "dict", data := Data.dict #[{ hash := PyData.keyHash P (Str.ofString "__module__"), key := Value.str (Str.ofString "__module__") 558, val := Value.str (Str.ofString "paperhold.objects") 458 }, { hash := PyData.keyHash P (Str.ofString "__firstlineno__"), key := Value.str (Str.ofString "__firstlineno__") 562, val := Value.int 130 561 }, { hash := PyData.keyHash P (Str.ofString "__init__"), key := Value.str (Str.ofString "__init__") 571, val := Value.ref 305 }, { hash := PyData.keyHash P (Str.ofString "pair"), key := Value.str (Str.ofString "pair") 578, val := Value.ref 312 }, { hash := PyData.keyHash P (Str.ofString "__static_attributes__"), key := Value.str (Str.ofString "__static_attributes__") 581, val := Value.ref 313 }, { hash := PyData.keyHash P (Str.ofString "__dict__"), key := Value.str (Str.ofString "__dict__") 583, val := Value.ref 316 }, { hash := PyData.keyHash P (Str.ofString "__weakref__"), key := Value.str (Str.ofString "__weakref__") 585, val := Value.ref 317 }, { hash := PyData.keyHash P (Str.ofString "__doc__"), key := Value.str (Str.ofString "__doc__") 586, val := Value.none }] 4 }
noncomputable def o356 : Params → Obj := fun P => { cls := Value.type "type", data := Data.cls { name := Str.ofString "Reference", bases := [Value.type "object"], mro := [Value.ref 315, Value.type "object"], ns := 314, qualname := Str.ofString "Reference" }, slots := #[none, none, some (Value.str (Str.ofString "Reference") 551), some (Value.str (Str.ofString "Reference") 559), some (Value.builtin "object.__new__"), some (Value.bool true)] }
noncomputable def o357 : Params → Obj := fun P => { cls := Value.type "getset_descriptor", data := Data.fields #[Value.str (Str.ofString "__dict__") 582, Value.ref 315, Value.builtin "function.__dict__", Value.builtin "function.__dict__#set"] }
noncomputable def o358 : Params → Obj := fun P => { cls := Value.type "getset_descriptor", data := Data.fields #[Value.str (Str.ofString "__weakref__") 584, Value.ref 315, Value.builtin "ExceptionGroup.__weakref__", Value.none] }
noncomputable def o359 : Params → Obj := fun P => { cls := Value.type "super", data := Data.fields #[Value.ref 315, Value.ref 315, Value.ref 315] }
noncomputable def o360 : Params → Obj := fun P => { cls := Value.type "builtin_function_or_method", data := Data.fields #[Value.builtin "object.__init_subclass__", Value.ref 315] }
noncomputable def o361 : Params → Obj := fun P => { cls := Value.type "tuple", data := Data.seq #[] }
noncomputable def o362 : Params → Obj := fun P => { cls := Value.none, data := Data.fields #[] }
noncomputable def o363 : Params → Obj := fun P => { cls := Value.type "tuple", data := Data.seq #[Value.str (Str.ofString "value") 592] }
noncomputable def o364 : Params → Obj := fun P => { cls := Value.type "tuple", data := Data.seq #[] }
noncomputable def o365 : Params → Obj := fun P => lit3 (A := fA (sAt 21)) (B := fB (sAt 21)) (S := fS (sAt 21)) (by conv => lhs; whnf) (by conv => lhs; whnf) (by conv => lhs; whnf) fun a b s => { cls := Value.none, data := Data.func { name := Str.ofString "kind_of", qualname := Str.ofString "kind_of", params := a, body := FuncBody.stmts b, scope := s, globals := 0, closure := [], defaults := Value.none, kwdefaults := Value.none } }
noncomputable def o366 : Params → Obj := fun P => { cls := Value.type "code", data := Data.fields #[Value.str (Str.ofString "kind_of") 589, Value.str (Str.ofString "kind_of") 590, Value.str (Str.ofString "/claim/cut.py") 591, Value.int 138 0, Value.int 1 0, Value.int 0 0, Value.int 0 0, Value.int 3 0, Value.ref 320, Value.bool true, Value.int 181 0, Value.ref 321, Value.none, Value.ref 322, Value.ref 323, Value.ref 324, Value.int 593 0, Value.int 138 0, Value.str (Str.ofString "/claim/cut.py") 594] }
noncomputable def o367 : Params → Obj := fun P => lit3 (A := fA (sAt 21)) (B := fB (sAt 21)) (S := fS (sAt 21)) (by conv => lhs; whnf) (by conv => lhs; whnf) (by conv => lhs; whnf) fun a b s => { cls := Value.type "function", data := Data.func { name := Str.ofString "kind_of", qualname := Str.ofString "kind_of", params := a, body := FuncBody.stmts b, scope := s, globals := 3, closure := [], defaults := Value.none, kwdefaults := Value.none, pyModule := Value.str (Str.ofString "paperhold.objects") 458, code := Value.ref 325 } }
noncomputable def o368 : Params → Obj := fun P => { cls := Value.type "tuple", data := Data.seq #[] }
noncomputable def o369 : Params → Obj := fun P => { cls := Value.none, data := Data.fields #[] }
noncomputable def o370 : Params → Obj := fun P => { cls := Value.type "tuple", data := Data.seq #[Value.str (Str.ofString "value") 599] }
noncomputable def o371 : Params → Obj := fun P => { cls := Value.type "tuple", data := Data.seq #[] }
noncomputable def o372 : Params → Obj := fun P => lit3 (A := fA (sAt 22)) (B := fB (sAt 22)) (S := fS (sAt 22)) (by conv => lhs; whnf) (by conv => lhs; whnf) (by conv => lhs; whnf) fun a b s => { cls := Value.none, data := Data.func { name := Str.ofString "is_number", qualname := Str.ofString "is_number", params := a, body := FuncBody.stmts b, scope := s, globals := 0, closure := [], defaults := Value.none, kwdefaults := Value.none } }
noncomputable def o373 : Params → Obj := fun P => { cls := Value.type "code", data := Data.fields #[Value.str (Str.ofString "is_number") 596, Value.str (Str.ofString "is_number") 597, Value.str (Str.ofString "/claim/cut.py") 598, Value.int 160 0, Value.int 1 0, Value.int 0 0, Value.int 0 0, Value.int 3 0, Value.ref 327, Value.bool true, Value.int 181 0, Value.ref 328, Value.none, Value.ref 329, Value.ref 330, Value.ref 331, Value.int 600 0, Value.int 160 0, Value.str (Str.ofString "/claim/cut.py") 601] }
noncomputable def o374 : Params → Obj := fun P => lit3 (A := fA (sAt 22)) (B := fB (sAt 22)) (S := fS (sAt 22)) (by conv => lhs; whnf) (by conv => lhs; whnf) (by conv => lhs; whnf) fun a b s => { cls := Value.type "function", data := Data.func { name := Str.ofString "is_number", qualname := Str.ofString "is_number", params := a, body := FuncBody.stmts b, scope := s, globals := 3, closure := [], defaults := Value.none, kwdefaults := Value.none, pyModule := Value.str (Str.ofString "paperhold.objects") 458, code := Value.ref 332 } }
noncomputable def o375 : Params → Obj := fun P => { cls := Value.type "tuple", data := Data.seq #[] }
noncomputable def o376 : Params → Obj := fun P => { cls := Value.none, data := Data.fields #[] }
noncomputable def o377 : Params → Obj := fun P => { cls := Value.type "tuple", data := Data.seq #[Value.str (Str.ofString "kind") 606, Value.str (Str.ofString "value") 607] }
noncomputable def o378 : Params → Obj := fun P => { cls := Value.type "tuple", data := Data.seq #[] }
noncomputable def o379 : Params → Obj := fun P => lit3 (A := fA (sAt 23)) (B := fB (sAt 23)) (S := fS (sAt 23)) (by conv => lhs; whnf) (by conv => lhs; whnf) (by conv => lhs; whnf) fun a b s => { cls := Value.none, data := Data.func { name := Str.ofString "told_plain", qualname := Str.ofString "told_plain", params := a, body := FuncBody.stmts b, scope := s, globals := 0, closure := [], defaults := Value.none, kwdefaults := Value.none } }
noncomputable def o380 : Params → Obj := fun P => { cls := Value.type "code", data := Data.fields #[Value.str (Str.ofString "told_plain") 603, Value.str (Str.ofString "told_plain") 604, Value.str (Str.ofString "/claim/cut.py") 605, Value.int 162 0, Value.int 2 0, Value.int 0 0, Value.int 0 0, Value.int 3 0, Value.ref 334, Value.bool true, Value.int 181 0, Value.ref 335, Value.none, Value.ref 336, Value.ref 337, Value.ref 338, Value.int 608 0, Value.int 162 0, Value.str (Str.ofString "/claim/cut.py") 609] }
noncomputable def o381 : Params → Obj := fun P => lit3 (A := fA (sAt 23)) (B := fB (sAt 23)) (S := fS (sAt 23)) (by conv => lhs; whnf) (by conv => lhs; whnf) (by conv => lhs; whnf) fun a b s => { cls := Value.type "function", data := Data.func { name := Str.ofString "told_plain", qualname := Str.ofString "told_plain", params := a, body := FuncBody.stmts b, scope := s, globals := 3, closure := [], defaults := Value.none, kwdefaults := Value.none, pyModule := Value.str (Str.ofString "paperhold.objects") 458, code := Value.ref 339 } }
noncomputable def o382 : Params → Obj := fun P => { cls := Value.type "tuple", data := Data.seq #[] }
noncomputable def o383 : Params → Obj := fun P => { cls := Value.none, data := Data.fields #[] }
noncomputable def o384 : Params → Obj := fun P => lit3 (A := fA (sAt 24)) (B := fB (sAt 24)) (S := fS (sAt 24)) (by conv => lhs; whnf) (by conv => lhs; whnf) (by conv => lhs; whnf) fun a b s => { cls := Value.none, data := Data.func { name := Str.ofString "told", qualname := Str.ofString "told", params := a, body := FuncBody.stmts b, scope := s, globals := 0, closure := [], defaults := Value.none, kwdefaults := Value.none } }
noncomputable def o385 : Params → Obj := fun P => { cls := Value.type "code", data := Data.fields #[Value.str (Str.ofString "told") 611, Value.str (Str.ofString "told") 612, Value.str (Str.ofString "/claim/cut.py") 613, Value.int 176 0, Value.int 1 0, Value.int 0 0, Value.int 0 0, Value.int 3 0, Value.ref 341, Value.bool true, Value.int 181 0, Value.ref 342, Value.none, Value.none, Value.none, Value.ref 343, Value.int 614 0, Value.int 176 0, Value.str (Str.ofString "/claim/cut.py") 615] }
noncomputable def o386 : Params → Obj := fun P => lit3 (A := fA (sAt 24)) (B := fB (sAt 24)) (S := fS (sAt 24)) (by conv => lhs; whnf) (by conv => lhs; whnf) (by conv => lhs; whnf) fun a b s => { cls := Value.type "function", data := Data.func { name := Str.ofString "told", qualname := Str.ofString "told", params := a, body := FuncBody.stmts b, scope := s, globals := 3, closure := [], defaults := Value.none, kwdefaults := Value.none, pyModule := Value.str (Str.ofString "paperhold.objects") 458, code := Value.ref 344 } }
noncomputable def o387 : Params → Obj := fun P => { cls := Value.type "tuple", data := Data.seq #[] }
noncomputable def o388 : Params → Obj := fun P => { cls := Value.type "builtin_function_or_method", data := Data.fields #[Value.builtin "type.__prepare__", Value.type "type"] }
noncomputable def o389 : Params → Obj := fun P => { cls := Value.type "dict", data := Data.dict #[{ hash := PyData.keyHash P (Str.ofString "__module__"), key := Value.str (Str.ofString "__module__") 627, val := Value.str (Str.ofString "paperhold.colours") 618 }, { hash := PyData.keyHash P (Str.ofString "__qualname__"), key := Value.str (Str.ofString "__qualname__") 629, val := Value.str (Str.ofString "Space") 628 }, { hash := PyData.keyHash P (Str.ofString "__firstlineno__"), key := Value.str (Str.ofString "__firstlineno__") 631, val := Value.int 187 630 }, { hash := PyData.keyHash P (Str.ofString "__init__"), key := Value.str (Str.ofString "__init__") 647, val := Value.ref 361 }, { hash := PyData.keyHash P (Str.ofString "told"), key := Value.str (Str.ofString "told") 655, val := Value.ref 368 }, { hash := PyData.keyHash P (Str.ofString "__static_attributes__"), key := Value.str (Str.ofString "__static_attributes__") 663, val := Value.ref 369 }] 6 }
noncomputable def o390 : Params → Obj := fun P => { cls := Value.type "tuple", data := Data.seq #[] }
noncomputable def o391 : Params → Obj := fun P => { cls := Value.none, data := Data.fields #[Value.int 189 0, Value.int 4 0, Value.ref 360, Value.int 198 0, Value.int 4 0, Value.ref 367] }
noncomputable def o392 : Params → Obj := fun P => { cls := Value.type "code", data := Data.fields #[Value.str (Str.ofString "Space") 622, Value.str (Str.ofString "Space") 623, Value.str (Str.ofString "/claim/cut.py") 624, Value.int 187 0, Value.int 0 0, Value.int 0 0, Value.int 0 0, Value.int 0 0, Value.ref 349, Value.bool false, Value.int 181 0, Value.ref 350, Value.none, Value.none, Value.none, Value.none, Value.int 625 0, Value.int 187 0, Value.str (Str.ofString "/claim/cut.py") 626] }
noncomputable def o393 : Params → Obj := fun P => { cls := Value.type "frame", slots := #[some (Value.ref 351), some (Value.ref 3), some (Value.ref 348), none, some (Value.str (Str.ofString "paperhold.colours") 618), none, some (Value.ref 0)] }
noncomputable def o394 : Params → Obj := fun P => { cls := Value.type "tuple", data := Data.seq #[] }
noncomputable def o395 : Params → Obj := fun P => { cls := Value.type "tuple", data := Data.seq #[Value.none, Value.bytes #[] 632, Value.int 0 633, Value.none, Value.ref 353] }
noncomputable def o396 : Params → Obj := fun P => { cls := Value.type "tuple", data := Data.seq #[] }
noncomputable def o397 : Params → Obj := fun P => { cls := Value.none, data := Data.fields #[] }
noncomputable def o398 : Params → Obj := fun P => { cls := Value.type "tuple", data := Data.seq #[Value.str (Str.ofString "self") 637, Value.str (Str.ofString "name") 638, Value.str (Str.ofString "count") 639, Value.str (Str.ofString "base") 640, Value.str (Str.ofString "table") 641, Value.str (Str.ofString "most") 642, Value.str (Str.ofString "tint") 643, Value.str (Str.ofString "inks") 644] }
noncomputable def o399 : Params → Obj := fun P => { cls := Value.type "tuple", data := Data.seq #[] }
noncomputable def o400 : Params → Obj := fun P => lit3 (A := fA (mAt 27 0)) (B := fB (mAt 27 0)) (S := fS (mAt 27 0)) (by conv => lhs; whnf) (by conv => lhs; whnf) (by conv => lhs; whnf) fun a b s => { cls := Value.none, data := Data.func { name := Str.ofString "__init__", qualname := Str.ofString "Space.__init__", params := a, body := FuncBody.stmts b, scope := s, globals := 0, closure := [], defaults := Value.none, kwdefaults := Value.none } }
noncomputable def o401 : Params → Obj := fun P => { cls := Value.type "code", data := Data.fields #[Value.str (Str.ofString "__init__") 634, Value.str (Str.ofString "Space.__init__") 635, Value.str (Str.ofString "/claim/cut.py") 636, Value.int 189 0, Value.int 8 0, Value.int 0 0, Value.int 0 0, Value.int 3 0, Value.ref 355, Value.bool true, Value.int 181 0, Value.ref 356, Value.none, Value.ref 357, Value.ref 358, Value.ref 359, Value.int 645 0, Value.int 189 0, Value.str (Str.ofString "/claim/cut.py") 646] }
noncomputable def o402 : Params → Obj := fun P => lit3 (A := fA (mAt 27 0)) (B := fB (mAt 27 0)) (S := fS (mAt 27 0)) (by conv => lhs; whnf) (by conv => lhs; whnf) (by conv => lhs; whnf) fun a b s => { cls := Value.type "function", data := Data.func { name := Str.ofString "__init__", qualname := Str.ofString "Space.__init__", params := a, body := FuncBody.stmts b, scope := s, globals := 3, closure := [], defaults := Value.ref 354, kwdefaults := Value.none, pyModule := Value.str (Str.ofString "paperhold.colours") 618, code := Value.ref 360 } }
noncomputable def o403 : Params → Obj := fun P => { cls := Value.type "tuple", data := Data.seq #[] }
noncomputable def o404 : Params → Obj := fun P => { cls := Value.none, data := Data.fields #[] }
noncomputable def o405 : Params → Obj := fun P => { cls := Value.type "tuple", data := Data.seq #[Value.str (Str.ofString "self") 651, Value.str (Str.ofString "base") 652] }
noncomputable def o406 : Params → Obj := fun P => { cls := Value.type "tuple", data := Data.seq #[] }
noncomputable def o407 : Params → Obj := fun P => lit3 (A := fA (mAt 27 1)) (B := fB (mAt 27 1)) (S := fS (mAt 27 1)) (by conv => lhs; whnf) (by conv => lhs; whnf) (by conv => lhs; whnf) fun a b s => { cls := Value.none, data := Data.func { name := Str.ofString "told", qualname := Str.ofString "Space.told", params := a, body := FuncBody.stmts b, scope := s, globals := 0, closure := [], defaults := Value.none, kwdefaults := Value.none } }
noncomputable def o408 : Params → Obj := fun P => { cls := Value.type "code", data := Data.fields #[Value.str (Str.ofString "told") 648, Value.str (Str.ofString "Space.told") 649, Value.str (Str.ofString "/claim/cut.py") 650, Value.int 198 0, Value.int 1 0, Value.int 0 0, Value.int 0 0, Value.int 3 0, Value.ref 362, Value.bool true, Value.int 181 0, Value.ref 363, Value.none, Value.ref 364, Value.ref 365, Value.ref 366, Value.int 653 0, Value.int 198 0, Value.str (Str.ofString "/claim/cut.py") 654] }
noncomputable def o409 : Params → Obj := fun P => lit3 (A := fA (mAt 27 1)) (B := fB (mAt 27 1)) (S := fS (mAt 27 1)) (by conv => lhs; whnf) (by conv => lhs; whnf) (by conv => lhs; whnf) fun a b s => { cls := Value.type "function", data := Data.func { name := Str.ofString "told", qualname := Str.ofString "Space.told", params := a, body := FuncBody.stmts b, scope := s, globals := 3, closure := [], defaults := Value.none, kwdefaults := Value.none, pyModule := Value.str (Str.ofString "paperhold.colours") 618, code := Value.ref 367 } }
noncomputable def o410 : Params → Obj := fun P => { cls := Value.type "tuple", data := Data.seq #[Value.str (Str.ofString "base") 656, Value.str (Str.ofString "count") 657, Value.str (Str.ofString "inks") 658, Value.str (Str.ofString "most") 659, Value.str (Str.ofString "name") 660, Value.str (Str.ofString "table") 661, Value.str (Str.ofString "tint") 662] }
noncomputable def o411 : Params → Obj := fun P => { cls := Value.type "dict", data := Data.dict #[{ hash := PyData.keyHash P (Str.ofString "__module__"), key := Value.str (Str.ofString "__module__") 627, val := Value.str (Str.ofString "paperhold.colours") 618 }, { hash := PyData.keyHash P (Str.ofString "__firstlineno__"), key := Value.str (Str.ofString "__firstlineno__") 631, val := Value.int 187 630 }, { hash := PyData.keyHash P (Str.ofString "__init__"), key := Value.str (Str.ofString "__init__") 647, val := Value.ref 361 }, { hash := PyData.keyHash P (Str.ofString "told"), key := Value.str (Str.ofString "told") 655, val := Value.ref 368 }, { hash := PyData.keyHash P (Str.ofString "__static_attributes__"), key := Value.str (Str.ofString "__static_attributes__") 663, val := Value.ref 369 }, { hash := PyData.keyHash P (Str.ofString "__dict__"), key := Value.str (Str.ofString "__dict__") 665, val := Value.ref 372 }, { hash := PyData.keyHash P (Str.ofString "__weakref__"), key := Value.str (Str.ofString "__weakref__") 667, val := Value.ref 373 }, { hash := PyData.keyHash P (Str.ofString "__doc__"), key := Value.str (Str.ofString "__doc__") 668, val := Value.none }] 4 }
noncomputable def o412 : Params → Obj := fun P => { cls := Value.type "type", data := Data.cls { name := Str.ofString "Space", bases := [Value.type "object"], mro := [Value.ref 371, Value.type "object"], ns := 370, qualname := Str.ofString "Space" }, slots := #[none, none, some (Value.str (Str.ofString "Space") 620), some (Value.str (Str.ofString "Space") 628), some (Value.builtin "object.__new__"), some (Value.bool true)] }
noncomputable def o413 : Params → Obj := fun P => { cls := Value.type "getset_descriptor", data := Data.fields #[Value.str (Str.ofString "__dict__") 664, Value.ref 371, Value.builtin "function.__dict__", Value.builtin "function.__dict__#set"] }
noncomputable def o414 : Params → Obj := fun P => { cls := Value.type "getset_descriptor", data := Data.fields #[Value.str (Str.ofString "__weakref__") 666, Value.ref 371, Value.builtin "ExceptionGroup.__weakref__", Value.none] }
noncomputable def o415 : Params → Obj := fun P => { cls := Value.type "super", data := Data.fields #[Value.ref 371, Value.ref 371, Value.ref 371] }
noncomputable def o416 : Params → Obj := fun P => { cls := Value.type "builtin_function_or_method", data := Data.fields #[Value.builtin "object.__init_subclass__", Value.ref 371] }
noncomputable def o417 : Params → Obj := fun P => { cls := Value.type "tuple", data := Data.seq #[] }
noncomputable def o418 : Params → Obj := fun P => { cls := Value.none, data := Data.fields #[] }
noncomputable def o419 : Params → Obj := fun P => { cls := Value.type "tuple", data := Data.seq #[] }
noncomputable def o420 : Params → Obj := fun P => { cls := Value.type "tuple", data := Data.seq #[] }
noncomputable def o421 : Params → Obj := fun P => lit3 (A := fA (sAt 28)) (B := fB (sAt 28)) (S := fS (sAt 28)) (by conv => lhs; whnf) (by conv => lhs; whnf) (by conv => lhs; whnf) fun a b s => { cls := Value.none, data := Data.func { name := Str.ofString "device_spaces", qualname := Str.ofString "device_spaces", params := a, body := FuncBody.stmts b, scope := s, globals := 0, closure := [], defaults := Value.none, kwdefaults := Value.none } }
noncomputable def o422 : Params → Obj := fun P => { cls := Value.type "code", data := Data.fields #[Value.str (Str.ofString "device_spaces") 671, Value.str (Str.ofString "device_spaces") 672, Value.str (Str.ofString "/claim/cut.py") 673, Value.int 201 0, Value.int 0 0, Value.int 0 0, Value.int 0 0, Value.int 3 0, Value.ref 376, Value.bool true, Value.int 181 0, Value.ref 377, Value.none, Value.ref 378, Value.ref 379, Value.ref 380, Value.int 674 0, Value.int 201 0, Value.str (Str.ofString "/claim/cut.py") 675] }
noncomputable def o423 : Params → Obj := fun P => lit3 (A := fA (sAt 28)) (B := fB (sAt 28)) (S := fS (sAt 28)) (by conv => lhs; whnf) (by conv => lhs; whnf) (by conv => lhs; whnf) fun a b s => { cls := Value.type "function", data := Data.func { name := Str.ofString "device_spaces", qualname := Str.ofString "device_spaces", params := a, body := FuncBody.stmts b, scope := s, globals := 3, closure := [], defaults := Value.none, kwdefaults := Value.none, pyModule := Value.str (Str.ofString "paperhold.colours") 618, code := Value.ref 381 } }
noncomputable def o424 : Params → Obj := fun P => { cls := Value.type "tuple", data := Data.seq #[] }
noncomputable def o425 : Params → Obj := fun P => { cls := Value.none, data := Data.fields #[] }
noncomputable def o426 : Params → Obj := fun P => { cls := Value.type "tuple", data := Data.seq #[Value.str (Str.ofString "name") 680] }
noncomputable def o427 : Params → Obj := fun P => { cls := Value.type "tuple", data := Data.seq #[] }
noncomputable def o428 : Params → Obj := fun P => lit3 (A := fA (sAt 29)) (B := fB (sAt 29)) (S := fS (sAt 29)) (by conv => lhs; whnf) (by conv => lhs; whnf) (by conv => lhs; whnf) fun a b s => { cls := Value.none, data := Data.func { name := Str.ofString "device_space", qualname := Str.ofString "device_space", params := a, body := FuncBody.stmts b, scope := s, globals := 0, closure := [], defaults := Value.none, kwdefaults := Value.none } }
noncomputable def o429 : Params → Obj := fun P => { cls := Value.type "code", data := Data.fields #[Value.str (Str.ofString "device_space") 677, Value.str (Str.ofString "device_space") 678, Value.str (Str.ofString "/claim/cut.py") 679, Value.int 203 0, Value.int 1 0, Value.int 0 0, Value.int 0 0, Value.int 3 0, Value.ref 383, Value.bool true, Value.int 181 0, Value.ref 384, Value.none, Value.ref 385, Value.ref 386, Value.ref 387, Value.int 681 0, Value.int 203 0, Value.str (Str.ofString "/claim/cut.py") 682] }
noncomputable def o430 : Params → Obj := fun P => lit3 (A := fA (sAt 29)) (B := fB (sAt 29)) (S := fS (sAt 29)) (by conv => lhs; whnf) (by conv => lhs; whnf) (by conv => lhs; whnf) fun a b s => { cls := Value.type "function", data := Data.func { name := Str.ofString "device_space", qualname := Str.ofString "device_space", params := a, body := FuncBody.stmts b, scope := s, globals := 3, closure := [], defaults := Value.none, kwdefaults := Value.none, pyModule := Value.str (Str.ofString "paperhold.colours") 618, code := Value.ref 388 } }
noncomputable def o431 : Params → Obj := fun P => { cls := Value.type "tuple", data := Data.seq #[] }
noncomputable def o432 : Params → Obj := fun P => { cls := Value.none, data := Data.fields #[] }
noncomputable def o433 : Params → Obj := fun P => { cls := Value.type "tuple", data := Data.seq #[Value.str (Str.ofString "count") 687, Value.str (Str.ofString "name") 688, Value.str (Str.ofString "wanted") 689] }
noncomputable def o434 : Params → Obj := fun P => { cls := Value.type "tuple", data := Data.seq #[] }
noncomputable def o435 : Params → Obj := fun P => lit3 (A := fA (sAt 30)) (B := fB (sAt 30)) (S := fS (sAt 30)) (by conv => lhs; whnf) (by conv => lhs; whnf) (by conv => lhs; whnf) fun a b s => { cls := Value.none, data := Data.func { name := Str.ofString "device_of_count", qualname := Str.ofString "device_of_count", params := a, body := FuncBody.stmts b, scope := s, globals := 0, closure := [], defaults := Value.none, kwdefaults := Value.none } }
noncomputable def o436 : Params → Obj := fun P => { cls := Value.type "code", data := Data.fields #[Value.str (Str.ofString "device_of_count") 684, Value.str (Str.ofString "device_of_count") 685, Value.str (Str.ofString "/claim/cut.py") 686, Value.int 205 0, Value.int 1 0, Value.int 0 0, Value.int 0 0, Value.int 3 0, Value.ref 390, Value.bool true, Value.int 181 0, Value.ref 391, Value.none, Value.ref 392, Value.ref 393, Value.ref 394, Value.int 690 0, Value.int 205 0, Value.str (Str.ofString "/claim/cut.py") 691] }
noncomputable def o437 : Params → Obj := fun P => lit3 (A := fA (sAt 30)) (B := fB (sAt 30)) (S := fS (sAt 30)) (by conv => lhs; whnf) (by conv => lhs; whnf) (by conv => lhs; whnf) fun a b s => { cls := Value.type "function", data := Data.func { name := Str.ofString "device_of_count", qualname := Str.ofString "device_of_count", params := a, body := FuncBody.stmts b, scope := s, globals := 3, closure := [], defaults := Value.none, kwdefaults := Value.none, pyModule := Value.str (Str.ofString "paperhold.colours") 618, code := Value.ref 395 } }
noncomputable def o438 : Params → Obj := fun P => { cls := Value.type "tuple", data := Data.seq #[] }
noncomputable def o439 : Params → Obj := fun P => { cls := Value.none, data := Data.fields #[] }
noncomputable def o440 : Params → Obj := fun P => lit3 (A := fA (sAt 31)) (B := fB (sAt 31)) (S := fS (sAt 31)) (by conv => lhs; whnf) (by conv => lhs; whnf) (by conv => lhs; whnf) fun a b s => { cls := Value.none, data := Data.func { name := Str.ofString "cut_numbers", qualname := Str.ofString "cut_numbers", params := a, body := FuncBody.stmts b, scope := s, globals := 0, closure := [], defaults := Value.none, kwdefaults := Value.none } }
noncomputable def o441 : Params → Obj := fun P => { cls := Value.type "code", data := Data.fields #[Value.str (Str.ofString "cut_numbers") 693, Value.str (Str.ofString "cut_numbers") 694, Value.str (Str.ofString "/claim/cut.py") 695, Value.int 210 0, Value.int 2 0, Value.int 0 0, Value.int 0 0, Value.int 3 0, Value.ref 397, Value.bool true, Value.int 181 0, Value.ref 398, Value.none, Value.none, Value.none, Value.ref 399, Value.int 696 0, Value.int 210 0, Value.str (Str.ofString "/claim/cut.py") 697] }
noncomputable def o442 : Params → Obj := fun P => lit3 (A := fA (sAt 31)) (B := fB (sAt 31)) (S := fS (sAt 31)) (by conv => lhs; whnf) (by conv => lhs; whnf) (by conv => lhs; whnf) fun a b s => { cls := Value.type "function", data := Data.func { name := Str.ofString "cut_numbers", qualname := Str.ofString "cut_numbers", params := a, body := FuncBody.stmts b, scope := s, globals := 3, closure := [], defaults := Value.none, kwdefaults := Value.none, pyModule := Value.str (Str.ofString "paperhold.colours") 618, code := Value.ref 400 } }
noncomputable def o443 : Params → Obj := fun P => { cls := Value.type "tuple", data := Data.seq #[] }
noncomputable def o444 : Params → Obj := fun P => { cls := Value.none, data := Data.fields #[] }
noncomputable def o445 : Params → Obj := fun P => { cls := Value.type "tuple", data := Data.seq #[Value.str (Str.ofString "numbers") 702] }
noncomputable def o446 : Params → Obj := fun P => { cls := Value.type "tuple", data := Data.seq #[] }
noncomputable def o447 : Params → Obj := fun P => lit3 (A := fA (sAt 32)) (B := fB (sAt 32)) (S := fS (sAt 32)) (by conv => lhs; whnf) (by conv => lhs; whnf) (by conv => lhs; whnf) fun a b s => { cls := Value.none, data := Data.func { name := Str.ofString "rest_of", qualname := Str.ofString "rest_of", params := a, body := FuncBody.stmts b, scope := s, globals := 0, closure := [], defaults := Value.none, kwdefaults := Value.none } }
noncomputable def o448 : Params → Obj := fun P => { cls := Value.type "code", data := Data.fields #[Value.str (Str.ofString "rest_of") 699, Value.str (Str.ofString "rest_of") 700, Value.str (Str.ofString "/claim/cut.py") 701, Value.int 216 0, Value.int 1 0, Value.int 0 0, Value.int 0 0, Value.int 3 0, Value.ref 402, Value.bool true, Value.int 181 0, Value.ref 403, Value.none, Value.ref 404, Value.ref 405, Value.ref 406, Value.int 703 0, Value.int 216 0, Value.str (Str.ofString "/claim/cut.py") 704] }
noncomputable def o449 : Params → Obj := fun P => lit3 (A := fA (sAt 32)) (B := fB (sAt 32)) (S := fS (sAt 32)) (by conv => lhs; whnf) (by conv => lhs; whnf) (by conv => lhs; whnf) fun a b s => { cls := Value.type "function", data := Data.func { name := Str.ofString "rest_of", qualname := Str.ofString "rest_of", params := a, body := FuncBody.stmts b, scope := s, globals := 3, closure := [], defaults := Value.none, kwdefaults := Value.none, pyModule := Value.str (Str.ofString "paperhold.colours") 618, code := Value.ref 407 } }
noncomputable def o450 : Params → Obj := fun P => { cls := Value.type "tuple", data := Data.seq #[] }
noncomputable def o451 : Params → Obj := fun P => { cls := Value.none, data := Data.fields #[] }
noncomputable def o452 : Params → Obj := fun P => lit3 (A := fA (sAt 33)) (B := fB (sAt 33)) (S := fS (sAt 33)) (by conv => lhs; whnf) (by conv => lhs; whnf) (by conv => lhs; whnf) fun a b s => { cls := Value.none, data := Data.func { name := Str.ofString "device_rgb", qualname := Str.ofString "device_rgb", params := a, body := FuncBody.stmts b, scope := s, globals := 0, closure := [], defaults := Value.none, kwdefaults := Value.none } }
noncomputable def o453 : Params → Obj := fun P => { cls := Value.type "code", data := Data.fields #[Value.str (Str.ofString "device_rgb") 706, Value.str (Str.ofString "device_rgb") 707, Value.str (Str.ofString "/claim/cut.py") 708, Value.int 218 0, Value.int 2 0, Value.int 0 0, Value.int 0 0, Value.int 3 0, Value.ref 409, Value.bool true, Value.int 181 0, Value.ref 410, Value.none, Value.none, Value.none, Value.ref 411, Value.int 709 0, Value.int 218 0, Value.str (Str.ofString "/claim/cut.py") 710] }
noncomputable def o454 : Params → Obj := fun P => lit3 (A := fA (sAt 33)) (B := fB (sAt 33)) (S := fS (sAt 33)) (by conv => lhs; whnf) (by conv => lhs; whnf) (by conv => lhs; whnf) fun a b s => { cls := Value.type "function", data := Data.func { name := Str.ofString "device_rgb", qualname := Str.ofString "device_rgb", params := a, body := FuncBody.stmts b, scope := s, globals := 3, closure := [], defaults := Value.none, kwdefaults := Value.none, pyModule := Value.str (Str.ofString "paperhold.colours") 618, code := Value.ref 412 } }
noncomputable def o455 : Params → Obj := fun P => { cls := Value.type "tuple", data := Data.seq #[] }
noncomputable def o456 : Params → Obj := fun P => { cls := Value.none, data := Data.fields #[] }
noncomputable def o457 : Params → Obj := fun P => { cls := Value.type "tuple", data := Data.seq #[Value.str (Str.ofString "numbers") 715, Value.str (Str.ofString "first") 716, Value.str (Str.ofString "second") 717, Value.str (Str.ofString "third") 718] }
noncomputable def o458 : Params → Obj := fun P => { cls := Value.type "tuple", data := Data.seq #[] }
noncomputable def o459 : Params → Obj := fun P => lit3 (A := fA (sAt 34)) (B := fB (sAt 34)) (S := fS (sAt 34)) (by conv => lhs; whnf) (by conv => lhs; whnf) (by conv => lhs; whnf) fun a b s => { cls := Value.none, data := Data.func { name := Str.ofString "brightness", qualname := Str.ofString "brightness", params := a, body := FuncBody.stmts b, scope := s, globals := 0, closure := [], defaults := Value.none, kwdefaults := Value.none } }
noncomputable def o460 : Params → Obj := fun P => { cls := Value.type "code", data := Data.fields #[Value.str (Str.ofString "brightness") 712, Value.str (Str.ofString "brightness") 713, Value.str (Str.ofString "/claim/cut.py") 714, Value.int 224 0, Value.int 1 0, Value.int 0 0, Value.int 0 0, Value.int 3 0, Value.ref 414, Value.bool true, Value.int 181 0, Value.ref 415, Value.none, Value.ref 416, Value.ref 417, Value.ref 418, Value.int 719 0, Value.int 224 0, Value.str (Str.ofString "/claim/cut.py") 720] }
noncomputable def o461 : Params → Obj := fun P => lit3 (A := fA (sAt 34)) (B := fB (sAt 34)) (S := fS (sAt 34)) (by conv => lhs; whnf) (by conv => lhs; whnf) (by conv => lhs; whnf) fun a b s => { cls := Value.type "function", data := Data.func { name := Str.ofString "brightness", qualname := Str.ofString "brightness", params := a, body := FuncBody.stmts b, scope := s, globals := 3, closure := [], defaults := Value.none, kwdefaults := Value.none, pyModule := Value.str (Str.ofString "paperhold.colours") 618, code := Value.ref 419 } }
noncomputable def o462 : Params → Obj := fun P => { cls := Value.type "tuple", data := Data.seq #[] }
noncomputable def o463 : Params → Obj := fun P => { cls := Value.none, data := Data.fields #[] }
noncomputable def o464 : Params → Obj := fun P => { cls := Value.type "tuple", data := Data.seq #[Value.str (Str.ofString "name") 725, Value.str (Str.ofString "numbers") 726] }
noncomputable def o465 : Params → Obj := fun P => { cls := Value.type "tuple", data := Data.seq #[] }
noncomputable def o466 : Params → Obj := fun P => lit3 (A := fA (sAt 35)) (B := fB (sAt 35)) (S := fS (sAt 35)) (by conv => lhs; whnf) (by conv => lhs; whnf) (by conv => lhs; whnf) fun a b s => { cls := Value.none, data := Data.func { name := Str.ofString "device_gray", qualname := Str.ofString "device_gray", params := a, body := FuncBody.stmts b, scope := s, globals := 0, closure := [], defaults := Value.none, kwdefaults := Value.none } }
noncomputable def o467 : Params → Obj := fun P => { cls := Value.type "code", data := Data.fields #[Value.str (Str.ofString "device_gray") 722, Value.str (Str.ofString "device_gray") 723, Value.str (Str.ofString "/claim/cut.py") 724, Value.int 227 0, Value.int 2 0, Value.int 0 0, Value.int 0 0, Value.int 3 0, Value.ref 421, Value.bool true, Value.int 181 0, Value.ref 422, Value.none, Value.ref 423, Value.ref 424, Value.ref 425, Value.int 727 0, Value.int 227 0, Value.str (Str.ofString "/claim/cut.py") 728] }
noncomputable def o468 : Params → Obj := fun P => lit3 (A := fA (sAt 35)) (B := fB (sAt 35)) (S := fS (sAt 35)) (by conv => lhs; whnf) (by conv => lhs; whnf) (by conv => lhs; whnf) fun a b s => { cls := Value.type "function", data := Data.func { name := Str.ofString "device_gray", qualname := Str.ofString "device_gray", params := a, body := FuncBody.stmts b, scope := s, globals := 3, closure := [], defaults := Value.none, kwdefaults := Value.none, pyModule := Value.str (Str.ofString "paperhold.colours") 618, code := Value.ref 426 } }
noncomputable def o469 : Params → Obj := fun P => { cls := Value.type "dict", data := Data.dict #[{ hash := PyData.keyHash P (Str.ofString "__name__"), key := Value.str (Str.ofString "__name__") 165, val := Value.str (Str.ofString "law_pb0478_01") 753 }, { hash := PyData.keyHash P (Str.ofString "__doc__"), key := Value.str (Str.ofString "__doc__") 166, val := Value.none }, { hash := PyData.keyHash P (Str.ofString "__package__"), key := Value.str (Str.ofString "__package__") 167, val := Value.none }, { hash := PyData.keyHash P (Str.ofString "__loader__"), key := Value.str (Str.ofString "__loader__") 168, val := Value.builtin "__main__.__loader__#opaque" }, { hash := PyData.keyHash P (Str.ofString "__spec__"), key := Value.str (Str.ofString "__spec__") 169, val := Value.none }, { hash := PyData.keyHash P (Str.ofString "__annotations__"), key := Value.str (Str.ofString "__annotations__") 170, val := Value.ref 6 }, { hash := PyData.keyHash P (Str.ofString "__builtins__"), key := Value.str (Str.ofString "__builtins__") 171, val := Value.ref 4 }, { hash := PyData.keyHash P (Str.ofString "__file__"), key := Value.str (Str.ofString "__file__") 173, val := Value.str (Str.ofString "/claim/cut.py") 172 }, { hash := PyData.keyHash P (Str.ofString "__cached__"), key := Value.str (Str.ofString "__cached__") 174, val := Value.none }, { hash := PyData.keyHash P (Str.ofString "_wall"), key := Value.str (Str.ofString "_wall") 193, val := Value.ref 21 }, { hash := PyData.keyHash P (Str.ofString "PaperError"), key := Value.str (Str.ofString "PaperError") 235, val := Value.ref 46 }, { hash := PyData.keyHash P (Str.ofString "PaintFault"), key := Value.str (Str.ofString "PaintFault") 251, val := Value.ref 59 }, { hash := PyData.keyHash P (Str.ofString "Decimal"), key := Value.str (Str.ofString "Decimal") 374, val := Value.ref 155 }, { hash := PyData.keyHash P (Str.ofString "sign_text"), key := Value.str (Str.ofString "sign_text") 381, val := Value.ref 166 }, { hash := PyData.keyHash P (Str.ofString "sign_of"), key := Value.str (Str.ofString "sign_of") 388, val := Value.ref 173 }, { hash := PyData.keyHash P (Str.ofString "rounded_quotient"), key := Value.str (Str.ofString "rounded_quotient") 397, val := Value.ref 180 }, { hash := PyData.keyHash P (Str.ofString "decimal_of"), key := Value.str (Str.ofString "decimal_of") 404, val := Value.ref 187 }, { hash := PyData.keyHash P (Str.ofString "at_one_scale"), key := Value.str (Str.ofString "at_one_scale") 415, val := Value.ref 194 }, { hash := PyData.keyHash P (Str.ofString "tops_of"), key := Value.str (Str.ofString "tops_of") 421, val := Value.ref 199 }, { hash := PyData.keyHash P (Str.ofString "sum_of"), key := Value.str (Str.ofString "sum_of") 430, val := Value.ref 206 }, { hash := PyData.keyHash P (Str.ofString "least"), key := Value.str (Str.ofString "least") 439, val := Value.ref 213 }, { hash := PyData.keyHash P (Str.ofString "greatest"), key := Value.str (Str.ofString "greatest") 448, val := Value.ref 220 }, { hash := PyData.keyHash P (Str.ofString "clamped"), key := Value.str (Str.ofString "clamped") 457, val := Value.ref 227 }, { hash := PyData.keyHash P (Str.ofString "Name"), key := Value.str (Str.ofString "Name") 488, val := Value.ref 244 }, { hash := PyData.keyHash P (Str.ofString "String"), key := Value.str (Str.ofString "String") 519, val := Value.ref 266 }, { hash := PyData.keyHash P (Str.ofString "Stream"), key := Value.str (Str.ofString "Stream") 550, val := Value.ref 287 }, { hash := PyData.keyHash P (Str.ofString "Reference"), key := Value.str (Str.ofString "Reference") 588, val := Value.ref 315 }, { hash := PyData.keyHash P (Str.ofString "kind_of"), key := Value.str (Str.ofString "kind_of") 595, val := Value.ref 326 }, { hash := PyData.keyHash P (Str.ofString "is_number"), key := Value.str (Str.ofString "is_number") 602, val := Value.ref 333 }, { hash := PyData.keyHash P (Str.ofString "told_plain"), key := Value.str (Str.ofString "told_plain") 610, val := Value.ref 340 }, { hash := PyData.keyHash P (Str.ofString "told"), key := Value.str (Str.ofString "told") 616, val := Value.ref 345 }, { hash := PyData.keyHash P (Str.ofString "told_objects"), key := Value.str (Str.ofString "told_objects") 617, val := Value.ref 345 }, { hash := PyData.keyHash P (Str.ofString "Space"), key := Value.str (Str.ofString "Space") 670, val := Value.ref 371 }, { hash := PyData.keyHash P (Str.ofString "device_spaces"), key := Value.str (Str.ofString "device_spaces") 676, val := Value.ref 382 }, { hash := PyData.keyHash P (Str.ofString "device_space"), key := Value.str (Str.ofString "device_space") 683, val := Value.ref 389 }, { hash := PyData.keyHash P (Str.ofString "device_of_count"), key := Value.str (Str.ofString "device_of_count") 692, val := Value.ref 396 }, { hash := PyData.keyHash P (Str.ofString "cut_numbers"), key := Value.str (Str.ofString "cut_numbers") 698, val := Value.ref 401 }, { hash := PyData.keyHash P (Str.ofString "rest_of"), key := Value.str (Str.ofString "rest_of") 705, val := Value.ref 408 }, { hash := PyData.keyHash P (Str.ofString "device_rgb"), key := Value.str (Str.ofString "device_rgb") 711, val := Value.ref 413 }, { hash := PyData.keyHash P (Str.ofString "brightness"), key := Value.str (Str.ofString "brightness") 721, val := Value.ref 420 }, { hash := PyData.keyHash P (Str.ofString "device_gray"), key := Value.str (Str.ofString "device_gray") 729, val := Value.ref 427 }, { hash := PyData.keyHash P (Str.ofString "device_cmyk"), key := Value.str (Str.ofString "device_cmyk") 735, val := Value.ref 432 }, { hash := PyData.keyHash P (Str.ofString "device_colour"), key := Value.str (Str.ofString "device_colour") 745, val := Value.ref 439 }, { hash := PyData.keyHash P (Str.ofString "octet_of"), key := Value.str (Str.ofString "octet_of") 752, val := Value.ref 446 }, { hash := PyData.keyHash P (Str.ofString "_law_pen"), key := Value.str (Str.ofString "_law_pen") 760, val := Value.ref 451 }, { hash := PyData.keyHash P (Str.ofString "_law_draw"), key := Value.str (Str.ofString "_law_draw") 773, val := Value.ref 458 }, { hash := PyData.keyHash P (Str.ofString "_law_cut"), key := Value.str (Str.ofString "_law_cut") 780, val := Value.ref 465 }, { hash := PyData.keyHash P (Str.ofString "_law_told"), key := Value.str (Str.ofString "_law_told") 788, val := Value.ref 472 }, { hash := PyData.keyHash P (Str.ofString "_law_gray"), key := Value.str (Str.ofString "_law_gray") 796, val := Value.ref 479 }, { hash := PyData.keyHash P (Str.ofString "_law_rgb"), key := Value.str (Str.ofString "_law_rgb") 802, val := Value.ref 484 }, { hash := PyData.keyHash P (Str.ofString "_law_cmyk"), key := Value.str (Str.ofString "_law_cmyk") 808, val := Value.ref 489 }, { hash := PyData.keyHash P (Str.ofString "_law_refused"), key := Value.str (Str.ofString "_law_refused") 817, val := Value.ref 496 }, { hash := PyData.keyHash P (Str.ofString "law"), key := Value.str (Str.ofString "law") 823, val := Value.ref 501 }] 53 }
noncomputable def o470 : Params → Obj := fun P => { cls := Value.none, data := Data.fields #[Value.int 1 0, Value.int 0 0, Value.ref 20, Value.int 5 0, Value.int 0 0, Value.ref 27, Value.int 14 0, Value.int 0 0, Value.ref 55, Value.int 17 0, Value.int 0 0, Value.ref 67, Value.int 67 0, Value.int 0 0, Value.ref 165, Value.int 69 0, Value.int 0 0, Value.ref 172, Value.int 73 0, Value.int 0 0, Value.ref 179, Value.int 76 0, Value.int 0 0, Value.ref 186, Value.int 82 0, Value.int 0 0, Value.ref 193, Value.int 87 0, Value.int 0 0, Value.ref 198, Value.int 92 0, Value.int 0 0, Value.ref 205, Value.int 95 0, Value.int 0 0, Value.ref 212, Value.int 103 0, Value.int 0 0, Value.ref 219, Value.int 111 0, Value.int 0 0, Value.ref 226, Value.int 116 0, Value.int 0 0, Value.ref 233, Value.int 120 0, Value.int 0 0, Value.ref 254, Value.int 125 0, Value.int 0 0, Value.ref 276, Value.int 130 0, Value.int 0 0, Value.ref 297, Value.int 138 0, Value.int 0 0, Value.ref 325, Value.int 160 0, Value.int 0 0, Value.ref 332, Value.int 162 0, Value.int 0 0, Value.ref 339, Value.int 176 0, Value.int 0 0, Value.ref 344, Value.int 187 0, Value.int 0 0, Value.ref 351, Value.int 201 0, Value.int 0 0, Value.ref 381, Value.int 203 0, Value.int 0 0, Value.ref 388, Value.int 205 0, Value.int 0 0, Value.ref 395, Value.int 210 0, Value.int 0 0, Value.ref 400, Value.int 216 0, Value.int 0 0, Value.ref 407, Value.int 218 0, Value.int 0 0, Value.ref 412, Value.int 224 0, Value.int 0 0, Value.ref 419, Value.int 227 0, Value.int 0 0, Value.ref 426, Value.int 233 0, Value.int 0 0, Value.ref 431, Value.int 241 0, Value.int 0 0, Value.ref 438, Value.int 246 0, Value.int 0 0, Value.ref 445, Value.int 249 0, Value.int 0 0, Value.ref 450, Value.int 251 0, Value.int 0 0, Value.ref 457, Value.int 268 0, Value.int 0 0, Value.ref 464, Value.int 270 0, Value.int 0 0, Value.ref 471, Value.int 275 0, Value.int 0 0, Value.ref 478, Value.int 280 0, Value.int 0 0, Value.ref 483, Value.int 286 0, Value.int 0 0, Value.ref 488, Value.int 293 0, Value.int 0 0, Value.ref 495, Value.int 303 0, Value.int 0 0, Value.ref 500] }
noncomputable def o471 : Params → Obj := fun P => { cls := Value.type "tuple", data := Data.seq #[] }
noncomputable def o472 : Params → Obj := fun P => { cls := Value.none, data := Data.fields #[] }
noncomputable def o473 : Params → Obj := fun P => lit3 (A := fA (sAt 36)) (B := fB (sAt 36)) (S := fS (sAt 36)) (by conv => lhs; whnf) (by conv => lhs; whnf) (by conv => lhs; whnf) fun a b s => { cls := Value.none, data := Data.func { name := Str.ofString "device_cmyk", qualname := Str.ofString "device_cmyk", params := a, body := FuncBody.stmts b, scope := s, globals := 0, closure := [], defaults := Value.none, kwdefaults := Value.none } }
noncomputable def o474 : Params → Obj := fun P => { cls := Value.type "code", data := Data.fields #[Value.str (Str.ofString "device_cmyk") 730, Value.str (Str.ofString "device_cmyk") 731, Value.str (Str.ofString "/claim/cut.py") 732, Value.int 233 0, Value.int 2 0, Value.int 0 0, Value.int 0 0, Value.int 3 0, Value.ref 428, Value.bool true, Value.int 181 0, Value.ref 429, Value.none, Value.none, Value.none, Value.ref 430, Value.int 733 0, Value.int 233 0, Value.str (Str.ofString "/claim/cut.py") 734] }
noncomputable def o475 : Params → Obj := fun P => lit3 (A := fA (sAt 36)) (B := fB (sAt 36)) (S := fS (sAt 36)) (by conv => lhs; whnf) (by conv => lhs; whnf) (by conv => lhs; whnf) fun a b s => { cls := Value.type "function", data := Data.func { name := Str.ofString "device_cmyk", qualname := Str.ofString "device_cmyk", params := a, body := FuncBody.stmts b, scope := s, globals := 3, closure := [], defaults := Value.none, kwdefaults := Value.none, pyModule := Value.str (Str.ofString "paperhold.colours") 618, code := Value.ref 431 } }
noncomputable def o476 : Params → Obj := fun P => { cls := Value.type "tuple", data := Data.seq #[] }
noncomputable def o477 : Params → Obj := fun P => { cls := Value.none, data := Data.fields #[] }
noncomputable def o478 : Params → Obj := fun P => { cls := Value.type "tuple", data := Data.seq #[Value.str (Str.ofString "name") 739, Value.str (Str.ofString "numbers") 740, Value.str (Str.ofString "wanted") 741, Value.str (Str.ofString "row") 742] }
noncomputable def o479 : Params → Obj := fun P => { cls := Value.type "tuple", data := Data.seq #[] }
noncomputable def o480 : Params → Obj := fun P => lit3 (A := fA (sAt 37)) (B := fB (sAt 37)) (S := fS (sAt 37)) (by conv => lhs; whnf) (by conv => lhs; whnf) (by conv => lhs; whnf) fun a b s => { cls := Value.none, data := Data.func { name := Str.ofString "device_colour", qualname := Str.ofString "device_colour", params := a, body := FuncBody.stmts b, scope := s, globals := 0, closure := [], defaults := Value.none, kwdefaults := Value.none } }
noncomputable def o481 : Params → Obj := fun P => { cls := Value.type "code", data := Data.fields #[Value.str (Str.ofString "device_colour") 736, Value.str (Str.ofString "device_colour") 737, Value.str (Str.ofString "/claim/cut.py") 738, Value.int 241 0, Value.int 3 0, Value.int 0 0, Value.int 0 0, Value.int 3 0, Value.ref 433, Value.bool true, Value.int 181 0, Value.ref 434, Value.none, Value.ref 435, Value.ref 436, Value.ref 437, Value.int 743 0, Value.int 241 0, Value.str (Str.ofString "/claim/cut.py") 744] }
noncomputable def o482 : Params → Obj := fun P => lit3 (A := fA (sAt 37)) (B := fB (sAt 37)) (S := fS (sAt 37)) (by conv => lhs; whnf) (by conv => lhs; whnf) (by conv => lhs; whnf) fun a b s => { cls := Value.type "function", data := Data.func { name := Str.ofString "device_colour", qualname := Str.ofString "device_colour", params := a, body := FuncBody.stmts b, scope := s, globals := 3, closure := [], defaults := Value.none, kwdefaults := Value.none, pyModule := Value.str (Str.ofString "paperhold.colours") 618, code := Value.ref 438 } }
noncomputable def o483 : Params → Obj := fun P => { cls := Value.type "tuple", data := Data.seq #[] }
noncomputable def o484 : Params → Obj := fun P => { cls := Value.none, data := Data.fields #[] }
noncomputable def o485 : Params → Obj := fun P => { cls := Value.type "tuple", data := Data.seq #[Value.str (Str.ofString "number") 749] }
noncomputable def o486 : Params → Obj := fun P => { cls := Value.type "tuple", data := Data.seq #[] }
noncomputable def o487 : Params → Obj := fun P => lit3 (A := fA (sAt 38)) (B := fB (sAt 38)) (S := fS (sAt 38)) (by conv => lhs; whnf) (by conv => lhs; whnf) (by conv => lhs; whnf) fun a b s => { cls := Value.none, data := Data.func { name := Str.ofString "octet_of", qualname := Str.ofString "octet_of", params := a, body := FuncBody.stmts b, scope := s, globals := 0, closure := [], defaults := Value.none, kwdefaults := Value.none } }
noncomputable def o488 : Params → Obj := fun P => { cls := Value.type "code", data := Data.fields #[Value.str (Str.ofString "octet_of") 746, Value.str (Str.ofString "octet_of") 747, Value.str (Str.ofString "/claim/cut.py") 748, Value.int 246 0, Value.int 1 0, Value.int 0 0, Value.int 0 0, Value.int 3 0, Value.ref 440, Value.bool true, Value.int 181 0, Value.ref 441, Value.none, Value.ref 442, Value.ref 443, Value.ref 444, Value.int 750 0, Value.int 246 0, Value.str (Str.ofString "/claim/cut.py") 751] }
noncomputable def o489 : Params → Obj := fun P => lit3 (A := fA (sAt 38)) (B := fB (sAt 38)) (S := fS (sAt 38)) (by conv => lhs; whnf) (by conv => lhs; whnf) (by conv => lhs; whnf) fun a b s => { cls := Value.type "function", data := Data.func { name := Str.ofString "octet_of", qualname := Str.ofString "octet_of", params := a, body := FuncBody.stmts b, scope := s, globals := 3, closure := [], defaults := Value.none, kwdefaults := Value.none, pyModule := Value.str (Str.ofString "paperhold.colours") 618, code := Value.ref 445 } }
noncomputable def o490 : Params → Obj := fun P => { cls := Value.type "tuple", data := Data.seq #[] }
noncomputable def o491 : Params → Obj := fun P => { cls := Value.none, data := Data.fields #[] }
noncomputable def o492 : Params → Obj := fun P => lit3 (A := fA (sAt 40)) (B := fB (sAt 40)) (S := fS (sAt 40)) (by conv => lhs; whnf) (by conv => lhs; whnf) (by conv => lhs; whnf) fun a b s => { cls := Value.none, data := Data.func { name := Str.ofString "_law_pen", qualname := Str.ofString "_law_pen", params := a, body := FuncBody.stmts b, scope := s, globals := 0, closure := [], defaults := Value.none, kwdefaults := Value.none } }
noncomputable def o493 : Params → Obj := fun P => { cls := Value.type "code", data := Data.fields #[Value.str (Str.ofString "_law_pen") 755, Value.str (Str.ofString "_law_pen") 756, Value.str (Str.ofString "/claim/cut.py") 757, Value.int 249 0, Value.int 1 0, Value.int 0 0, Value.int 0 0, Value.int 3 0, Value.ref 447, Value.bool true, Value.int 181 0, Value.ref 448, Value.none, Value.none, Value.none, Value.ref 449, Value.int 758 0, Value.int 249 0, Value.str (Str.ofString "/claim/cut.py") 759] }
noncomputable def o494 : Params → Obj := fun P => lit3 (A := fA (sAt 40)) (B := fB (sAt 40)) (S := fS (sAt 40)) (by conv => lhs; whnf) (by conv => lhs; whnf) (by conv => lhs; whnf) fun a b s => { cls := Value.type "function", data := Data.func { name := Str.ofString "_law_pen", qualname := Str.ofString "_law_pen", params := a, body := FuncBody.stmts b, scope := s, globals := 3, closure := [], defaults := Value.none, kwdefaults := Value.none, pyModule := Value.str (Str.ofString "law_pb0478_01") 753, code := Value.ref 450 } }
noncomputable def o495 : Params → Obj := fun P => { cls := Value.type "tuple", data := Data.seq #[] }
noncomputable def o496 : Params → Obj := fun P => { cls := Value.none, data := Data.fields #[] }
noncomputable def o497 : Params → Obj := fun P => { cls := Value.type "tuple", data := Data.seq #[Value.str (Str.ofString "pen") 764, Value.str (Str.ofString "many") 765, Value.str (Str.ofString "digit") 766, Value.str (Str.ofString "spot") 767, Value.str (Str.ofString "cell") 768, Value.str (Str.ofString "great") 769, Value.str (Str.ofString "churned") 770] }
noncomputable def o498 : Params → Obj := fun P => { cls := Value.type "tuple", data := Data.seq #[] }
noncomputable def o499 : Params → Obj := fun P => lit3 (A := fA (sAt 41)) (B := fB (sAt 41)) (S := fS (sAt 41)) (by conv => lhs; whnf) (by conv => lhs; whnf) (by conv => lhs; whnf) fun a b s => { cls := Value.none, data := Data.func { name := Str.ofString "_law_draw", qualname := Str.ofString "_law_draw", params := a, body := FuncBody.stmts b, scope := s, globals := 0, closure := [], defaults := Value.none, kwdefaults := Value.none } }
noncomputable def o500 : Params → Obj := fun P => { cls := Value.type "code", data := Data.fields #[Value.str (Str.ofString "_law_draw") 761, Value.str (Str.ofString "_law_draw") 762, Value.str (Str.ofString "/claim/cut.py") 763, Value.int 251 0, Value.int 2 0, Value.int 0 0, Value.int 0 0, Value.int 3 0, Value.ref 452, Value.bool true, Value.int 181 0, Value.ref 453, Value.none, Value.ref 454, Value.ref 455, Value.ref 456, Value.int 771 0, Value.int 251 0, Value.str (Str.ofString "/claim/cut.py") 772] }
noncomputable def o501 : Params → Obj := fun P => lit3 (A := fA (sAt 41)) (B := fB (sAt 41)) (S := fS (sAt 41)) (by conv => lhs; whnf) (by conv => lhs; whnf) (by conv => lhs; whnf) fun a b s => { cls := Value.type "function", data := Data.func { name := Str.ofString "_law_draw", qualname := Str.ofString "_law_draw", params := a, body := FuncBody.stmts b, scope := s, globals := 3, closure := [], defaults := Value.none, kwdefaults := Value.none, pyModule := Value.str (Str.ofString "law_pb0478_01") 753, code := Value.ref 457 } }
noncomputable def o502 : Params → Obj := fun P => { cls := Value.type "tuple", data := Data.seq #[] }
noncomputable def o503 : Params → Obj := fun P => { cls := Value.none, data := Data.fields #[] }
noncomputable def o504 : Params → Obj := fun P => { cls := Value.type "tuple", data := Data.seq #[Value.str (Str.ofString "top") 777] }
noncomputable def o505 : Params → Obj := fun P => { cls := Value.type "tuple", data := Data.seq #[] }
noncomputable def o506 : Params → Obj := fun P => lit3 (A := fA (sAt 42)) (B := fB (sAt 42)) (S := fS (sAt 42)) (by conv => lhs; whnf) (by conv => lhs; whnf) (by conv => lhs; whnf) fun a b s => { cls := Value.none, data := Data.func { name := Str.ofString "_law_cut", qualname := Str.ofString "_law_cut", params := a, body := FuncBody.stmts b, scope := s, globals := 0, closure := [], defaults := Value.none, kwdefaults := Value.none } }
noncomputable def o507 : Params → Obj := fun P => { cls := Value.type "code", data := Data.fields #[Value.str (Str.ofString "_law_cut") 774, Value.str (Str.ofString "_law_cut") 775, Value.str (Str.ofString "/claim/cut.py") 776, Value.int 268 0, Value.int 1 0, Value.int 0 0, Value.int 0 0, Value.int 3 0, Value.ref 459, Value.bool true, Value.int 181 0, Value.ref 460, Value.none, Value.ref 461, Value.ref 462, Value.ref 463, Value.int 778 0, Value.int 268 0, Value.str (Str.ofString "/claim/cut.py") 779] }
noncomputable def o508 : Params → Obj := fun P => lit3 (A := fA (sAt 42)) (B := fB (sAt 42)) (S := fS (sAt 42)) (by conv => lhs; whnf) (by conv => lhs; whnf) (by conv => lhs; whnf) fun a b s => { cls := Value.type "function", data := Data.func { name := Str.ofString "_law_cut", qualname := Str.ofString "_law_cut", params := a, body := FuncBody.stmts b, scope := s, globals := 3, closure := [], defaults := Value.none, kwdefaults := Value.none, pyModule := Value.str (Str.ofString "law_pb0478_01") 753, code := Value.ref 464 } }
noncomputable def o509 : Params → Obj := fun P => { cls := Value.type "tuple", data := Data.seq #[] }
noncomputable def o510 : Params → Obj := fun P => { cls := Value.none, data := Data.fields #[] }
noncomputable def o511 : Params → Obj := fun P => { cls := Value.type "tuple", data := Data.seq #[Value.str (Str.ofString "worth") 784, Value.str (Str.ofString "scale") 785] }
noncomputable def o512 : Params → Obj := fun P => { cls := Value.type "tuple", data := Data.seq #[] }
noncomputable def o513 : Params → Obj := fun P => lit3 (A := fA (sAt 43)) (B := fB (sAt 43)) (S := fS (sAt 43)) (by conv => lhs; whnf) (by conv => lhs; whnf) (by conv => lhs; whnf) fun a b s => { cls := Value.none, data := Data.func { name := Str.ofString "_law_told", qualname := Str.ofString "_law_told", params := a, body := FuncBody.stmts b, scope := s, globals := 0, closure := [], defaults := Value.none, kwdefaults := Value.none } }
noncomputable def o514 : Params → Obj := fun P => { cls := Value.type "code", data := Data.fields #[Value.str (Str.ofString "_law_told") 781, Value.str (Str.ofString "_law_told") 782, Value.str (Str.ofString "/claim/cut.py") 783, Value.int 270 0, Value.int 2 0, Value.int 0 0, Value.int 0 0, Value.int 3 0, Value.ref 466, Value.bool true, Value.int 181 0, Value.ref 467, Value.none, Value.ref 468, Value.ref 469, Value.ref 470, Value.int 786 0, Value.int 270 0, Value.str (Str.ofString "/claim/cut.py") 787] }
noncomputable def o515 : Params → Obj := fun P => lit3 (A := fA (sAt 43)) (B := fB (sAt 43)) (S := fS (sAt 43)) (by conv => lhs; whnf) (by conv => lhs; whnf) (by conv => lhs; whnf) fun a b s => { cls := Value.type "function", data := Data.func { name := Str.ofString "_law_told", qualname := Str.ofString "_law_told", params := a, body := FuncBody.stmts b, scope := s, globals := 3, closure := [], defaults := Value.none, kwdefaults := Value.none, pyModule := Value.str (Str.ofString "law_pb0478_01") 753, code := Value.ref 471 } }
noncomputable def o516 : Params → Obj := fun P => { cls := Value.type "tuple", data := Data.seq #[] }
noncomputable def o517 : Params → Obj := fun P => { cls := Value.none, data := Data.fields #[] }
noncomputable def o518 : Params → Obj := fun P => { cls := Value.type "tuple", data := Data.seq #[Value.str (Str.ofString "row") 792, Value.str (Str.ofString "shares") 793] }
noncomputable def o519 : Params → Obj := fun P => { cls := Value.type "tuple", data := Data.seq #[] }
noncomputable def o520 : Params → Obj := fun P => lit3 (A := fA (sAt 44)) (B := fB (sAt 44)) (S := fS (sAt 44)) (by conv => lhs; whnf) (by conv => lhs; whnf) (by conv => lhs; whnf) fun a b s => { cls := Value.none, data := Data.func { name := Str.ofString "_law_gray", qualname := Str.ofString "_law_gray", params := a, body := FuncBody.stmts b, scope := s, globals := 0, closure := [], defaults := Value.none, kwdefaults := Value.none } }
noncomputable def o521 : Params → Obj := fun P => { cls := Value.type "code", data := Data.fields #[Value.str (Str.ofString "_law_gray") 789, Value.str (Str.ofString "_law_gray") 790, Value.str (Str.ofString "/claim/cut.py") 791, Value.int 275 0, Value.int 1 0, Value.int 0 0, Value.int 0 0, Value.int 3 0, Value.ref 473, Value.bool true, Value.int 181 0, Value.ref 474, Value.none, Value.ref 475, Value.ref 476, Value.ref 477, Value.int 794 0, Value.int 275 0, Value.str (Str.ofString "/claim/cut.py") 795] }
noncomputable def o522 : Params → Obj := fun P => lit3 (A := fA (sAt 44)) (B := fB (sAt 44)) (S := fS (sAt 44)) (by conv => lhs; whnf) (by conv => lhs; whnf) (by conv => lhs; whnf) fun a b s => { cls := Value.type "function", data := Data.func { name := Str.ofString "_law_gray", qualname := Str.ofString "_law_gray", params := a, body := FuncBody.stmts b, scope := s, globals := 3, closure := [], defaults := Value.none, kwdefaults := Value.none, pyModule := Value.str (Str.ofString "law_pb0478_01") 753, code := Value.ref 478 } }
noncomputable def o523 : Params → Obj := fun P => { cls := Value.type "tuple", data := Data.seq #[] }
noncomputable def o524 : Params → Obj := fun P => { cls := Value.none, data := Data.fields #[] }
noncomputable def o525 : Params → Obj := fun P => lit3 (A := fA (sAt 45)) (B := fB (sAt 45)) (S := fS (sAt 45)) (by conv => lhs; whnf) (by conv => lhs; whnf) (by conv => lhs; whnf) fun a b s => { cls := Value.none, data := Data.func { name := Str.ofString "_law_rgb", qualname := Str.ofString "_law_rgb", params := a, body := FuncBody.stmts b, scope := s, globals := 0, closure := [], defaults := Value.none, kwdefaults := Value.none } }
noncomputable def o526 : Params → Obj := fun P => { cls := Value.type "code", data := Data.fields #[Value.str (Str.ofString "_law_rgb") 797, Value.str (Str.ofString "_law_rgb") 798, Value.str (Str.ofString "/claim/cut.py") 799, Value.int 280 0, Value.int 1 0, Value.int 0 0, Value.int 0 0, Value.int 3 0, Value.ref 480, Value.bool true, Value.int 181 0, Value.ref 481, Value.none, Value.none, Value.none, Value.ref 482, Value.int 800 0, Value.int 280 0, Value.str (Str.ofString "/claim/cut.py") 801] }
noncomputable def o527 : Params → Obj := fun P => lit3 (A := fA (sAt 45)) (B := fB (sAt 45)) (S := fS (sAt 45)) (by conv => lhs; whnf) (by conv => lhs; whnf) (by conv => lhs; whnf) fun a b s => { cls := Value.type "function", data := Data.func { name := Str.ofString "_law_rgb", qualname := Str.ofString "_law_rgb", params := a, body := FuncBody.stmts b, scope := s, globals := 3, closure := [], defaults := Value.none, kwdefaults := Value.none, pyModule := Value.str (Str.ofString "law_pb0478_01") 753, code := Value.ref 483 } }
noncomputable def o528 : Params → Obj := fun P => { cls := Value.type "tuple", data := Data.seq #[] }
noncomputable def o529 : Params → Obj := fun P => { cls := Value.none, data := Data.fields #[] }
noncomputable def o530 : Params → Obj := fun P => lit3 (A := fA (sAt 46)) (B := fB (sAt 46)) (S := fS (sAt 46)) (by conv => lhs; whnf) (by conv => lhs; whnf) (by conv => lhs; whnf) fun a b s => { cls := Value.none, data := Data.func { name := Str.ofString "_law_cmyk", qualname := Str.ofString "_law_cmyk", params := a, body := FuncBody.stmts b, scope := s, globals := 0, closure := [], defaults := Value.none, kwdefaults := Value.none } }
noncomputable def o531 : Params → Obj := fun P => { cls := Value.type "code", data := Data.fields #[Value.str (Str.ofString "_law_cmyk") 803, Value.str (Str.ofString "_law_cmyk") 804, Value.str (Str.ofString "/claim/cut.py") 805, Value.int 286 0, Value.int 1 0, Value.int 0 0, Value.int 0 0, Value.int 3 0, Value.ref 485, Value.bool true, Value.int 181 0, Value.ref 486, Value.none, Value.none, Value.none, Value.ref 487, Value.int 806 0, Value.int 286 0, Value.str (Str.ofString "/claim/cut.py") 807] }
noncomputable def o532 : Params → Obj := fun P => lit3 (A := fA (sAt 46)) (B := fB (sAt 46)) (S := fS (sAt 46)) (by conv => lhs; whnf) (by conv => lhs; whnf) (by conv => lhs; whnf) fun a b s => { cls := Value.type "function", data := Data.func { name := Str.ofString "_law_cmyk", qualname := Str.ofString "_law_cmyk", params := a, body := FuncBody.stmts b, scope := s, globals := 3, closure := [], defaults := Value.none, kwdefaults := Value.none, pyModule := Value.str (Str.ofString "law_pb0478_01") 753, code := Value.ref 488 } }
noncomputable def o533 : Params → Obj := fun P => { cls := Value.type "tuple", data := Data.seq #[] }
noncomputable def o534 : Params → Obj := fun P => { cls := Value.none, data := Data.fields #[] }
noncomputable def o535 : Params → Obj := fun P => { cls := Value.type "tuple", data := Data.seq #[Value.str (Str.ofString "way") 812, Value.str (Str.ofString "numbers") 813, Value.str (Str.ofString "heard") 814] }
noncomputable def o536 : Params → Obj := fun P => { cls := Value.type "tuple", data := Data.seq #[] }
noncomputable def o537 : Params → Obj := fun P => lit3 (A := fA (sAt 47)) (B := fB (sAt 47)) (S := fS (sAt 47)) (by conv => lhs; whnf) (by conv => lhs; whnf) (by conv => lhs; whnf) fun a b s => { cls := Value.none, data := Data.func { name := Str.ofString "_law_refused", qualname := Str.ofString "_law_refused", params := a, body := FuncBody.stmts b, scope := s, globals := 0, closure := [], defaults := Value.none, kwdefaults := Value.none } }
noncomputable def o538 : Params → Obj := fun P => { cls := Value.type "code", data := Data.fields #[Value.str (Str.ofString "_law_refused") 809, Value.str (Str.ofString "_law_refused") 810, Value.str (Str.ofString "/claim/cut.py") 811, Value.int 293 0, Value.int 2 0, Value.int 0 0, Value.int 0 0, Value.int 3 0, Value.ref 490, Value.bool true, Value.int 181 0, Value.ref 491, Value.none, Value.ref 492, Value.ref 493, Value.ref 494, Value.int 815 0, Value.int 293 0, Value.str (Str.ofString "/claim/cut.py") 816] }
noncomputable def o539 : Params → Obj := fun P => lit3 (A := fA (sAt 47)) (B := fB (sAt 47)) (S := fS (sAt 47)) (by conv => lhs; whnf) (by conv => lhs; whnf) (by conv => lhs; whnf) fun a b s => { cls := Value.type "function", data := Data.func { name := Str.ofString "_law_refused", qualname := Str.ofString "_law_refused", params := a, body := FuncBody.stmts b, scope := s, globals := 3, closure := [], defaults := Value.none, kwdefaults := Value.none, pyModule := Value.str (Str.ofString "law_pb0478_01") 753, code := Value.ref 495 } }
noncomputable def o540 : Params → Obj := fun P => { cls := Value.type "tuple", data := Data.seq #[] }
noncomputable def o541 : Params → Obj := fun P => { cls := Value.none, data := Data.fields #[] }
noncomputable def o542 : Params → Obj := fun P => lit3 (A := fA (sAt 48)) (B := fB (sAt 48)) (S := fS (sAt 48)) (by conv => lhs; whnf) (by conv => lhs; whnf) (by conv => lhs; whnf) fun a b s => { cls := Value.none, data := Data.func { name := Str.ofString "law", qualname := Str.ofString "law", params := a, body := FuncBody.stmts b, scope := s, globals := 0, closure := [], defaults := Value.none, kwdefaults := Value.none } }
noncomputable def o543 : Params → Obj := fun P => { cls := Value.type "code", data := Data.fields #[Value.str (Str.ofString "law") 818, Value.str (Str.ofString "law") 819, Value.str (Str.ofString "/claim/cut.py") 820, Value.int 303 0, Value.int 1 0, Value.int 0 0, Value.int 0 0, Value.int 3 0, Value.ref 497, Value.bool true, Value.int 181 0, Value.ref 498, Value.none, Value.none, Value.none, Value.ref 499, Value.int 821 0, Value.int 303 0, Value.str (Str.ofString "/claim/cut.py") 822] }
noncomputable def o544 : Params → Obj := fun P => lit3 (A := fA (sAt 48)) (B := fB (sAt 48)) (S := fS (sAt 48)) (by conv => lhs; whnf) (by conv => lhs; whnf) (by conv => lhs; whnf) fun a b s => { cls := Value.type "function", data := Data.func { name := Str.ofString "law", qualname := Str.ofString "law", params := a, body := FuncBody.stmts b, scope := s, globals := 3, closure := [], defaults := Value.none, kwdefaults := Value.none, pyModule := Value.str (Str.ofString "law_pb0478_01") 753, code := Value.ref 500 } }
noncomputable def tree46 : Params → BT := fun P => BT.node (boot_o_0 P) (BT.node (boot_o_1 P) (BT.node (boot_o_3 P) (BT.node (boot_o_7 P) BT.nil BT.nil) (BT.node (o43 P) BT.nil BT.nil)) (BT.node (boot_o_5 P) (BT.node (boot_o_9 P) BT.nil BT.nil) (BT.node (o45 P) BT.nil BT.nil))) (BT.node (boot_o_2 P) (BT.node (boot_o_4 P) (BT.node (boot_o_8 P) BT.nil BT.nil) (BT.node (o44 P) BT.nil BT.nil)) (BT.node (boot_o_6 P) (BT.node (boot_o_10 P) BT.nil BT.nil) (BT.node (o46 P) BT.nil BT.nil)))
noncomputable def tree96 : Params → BT := fun P => BT.node (boot_o_0 P) (BT.node (boot_o_1 P) (BT.node (o48 P) (BT.node (boot_o_7 P) (BT.node (o50 P) (BT.node (o66 P) BT.nil BT.nil) (BT.node (o82 P) BT.nil BT.nil)) (BT.node (o58 P) (BT.node (o74 P) BT.nil BT.nil) (BT.node (o90 P) BT.nil BT.nil))) (BT.node (o43 P) (BT.node (o54 P) (BT.node (o70 P) BT.nil BT.nil) (BT.node (o86 P) BT.nil BT.nil)) (BT.node (o62 P) (BT.node (o78 P) BT.nil BT.nil) (BT.node (o94 P) BT.nil BT.nil)))) (BT.node (boot_o_5 P) (BT.node (boot_o_9 P) (BT.node (o52 P) (BT.node (o68 P) BT.nil BT.nil) (BT.node (o84 P) BT.nil BT.nil)) (BT.node (o60 P) (BT.node (o76 P) BT.nil BT.nil) (BT.node (o92 P) BT.nil BT.nil))) (BT.node (o45 P) (BT.node (o56 P) (BT.node (o72 P) BT.nil BT.nil) (BT.node (o88 P) BT.nil BT.nil)) (BT.node (o64 P) (BT.node (o80 P) BT.nil BT.nil) (BT.node (o96 P) BT.nil BT.nil))))) (BT.node (o47 P) (BT.node (boot_o_4 P) (BT.node (boot_o_8 P) (BT.node (o51 P) (BT.node (o67 P) BT.nil BT.nil) (BT.node (o83 P) BT.nil BT.nil)) (BT.node (o59 P) (BT.node (o75 P) BT.nil BT.nil) (BT.node (o91 P) BT.nil BT.nil))) (BT.node (o49 P) (BT.node (o55 P) (BT.node (o71 P) BT.nil BT.nil) (BT.node (o87 P) BT.nil BT.nil)) (BT.node (o63 P) (BT.node (o79 P) BT.nil BT.nil) (BT.node (o95 P) BT.nil BT.nil)))) (BT.node (boot_o_6 P) (BT.node (boot_o_10 P) (BT.node (o53 P) (BT.node (o69 P) BT.nil BT.nil) (BT.node (o85 P) BT.nil BT.nil)) (BT.node (o61 P) (BT.node (o77 P) BT.nil BT.nil) (BT.node (o93 P) BT.nil BT.nil))) (BT.node (o46 P) (BT.node (o57 P) (BT.node (o73 P) BT.nil BT.nil) (BT.node (o89 P) BT.nil BT.nil)) (BT.node (o65 P) (BT.node (o81 P) BT.nil BT.nil) BT.nil))))
noncomputable def tree264 : Params → BT := fun P => BT.node (boot_o_0 P) (BT.node (boot_o_1 P) (BT.node (o97 P) (BT.node (boot_o_7 P) (BT.node (o50 P) (BT.node (o66 P) (BT.node (o100 P) (BT.node (o164 P) BT.nil BT.nil) (BT.node (o228 P) BT.nil BT.nil)) (BT.node (o132 P) (BT.node (o196 P) BT.nil BT.nil) (BT.node (o260 P) BT.nil BT.nil))) (BT.node (o82 P) (BT.node (o116 P) (BT.node (o180 P) BT.nil BT.nil) (BT.node (o244 P) BT.nil BT.nil)) (BT.node (o148 P) (BT.node (o212 P) BT.nil BT.nil) BT.nil))) (BT.node (o58 P) (BT.node (o74 P) (BT.node (o108 P) (BT.node (o172 P) BT.nil BT.nil) (BT.node (o236 P) BT.nil BT.nil)) (BT.node (o140 P) (BT.node (o204 P) BT.nil BT.nil) BT.nil)) (BT.node (o90 P) (BT.node (o124 P) (BT.node (o188 P) BT.nil BT.nil) (BT.node (o252 P) BT.nil BT.nil)) (BT.node (o156 P) (BT.node (o220 P) BT.nil BT.nil) BT.nil)))) (BT.node (o43 P) (BT.node (o54 P) (BT.node (o70 P) (BT.node (o104 P) (BT.node (o168 P) BT.nil BT.nil) (BT.node (o232 P) BT.nil BT.nil)) (BT.node (o136 P) (BT.node (o200 P) BT.nil BT.nil) (BT.node (o264 P) BT.nil BT.nil))) (BT.node (o86 P) (BT.node (o120 P) (BT.node (o184 P) BT.nil BT.nil) (BT.node (o248 P) BT.nil BT.nil)) (BT.node (o152 P) (BT.node (o216 P) BT.nil BT.nil) BT.nil))) (BT.node (o62 P) (BT.node (o78 P) (BT.node (o112 P) (BT.node (o176 P) BT.nil BT.nil) (BT.node (o240 P) BT.nil BT.nil)) (BT.node (o144 P) (BT.node (o208 P) BT.nil BT.nil) BT.nil)) (BT.node (o94 P) (BT.node (o128 P) (BT.node (o192 P) BT.nil BT.nil) (BT.node (o256 P) BT.nil BT.nil)) (BT.node (o160 P) (BT.node (o224 P) BT.nil BT.nil) BT.nil))))) (BT.node (boot_o_5 P) (BT.node (boot_o_9 P) (BT.node (o52 P) (BT.node (o68 P) (BT.node (o102 P) (BT.node (o166 P) BT.nil BT.nil) (BT.node (o230 P) BT.nil BT.nil)) (BT.node (o134 P) (BT.node (o198 P) BT.nil BT.nil) (BT.node (o262 P) BT.nil BT.nil))) (BT.node (o84 P) (BT.node (o118 P) (BT.node (o182 P) BT.nil BT.nil) (BT.node (o246 P) BT.nil BT.nil)) (BT.node (o150 P) (BT.node (o214 P) BT.nil BT.nil) BT.nil))) (BT.node (o60 P) (BT.node (o76 P) (BT.node (o110 P) (BT.node (o174 P) BT.nil BT.nil) (BT.node (o238 P) BT.nil BT.nil)) (BT.node (o142 P) (BT.node (o206 P) BT.nil BT.nil) BT.nil)) (BT.node (o92 P) (BT.node (o126 P) (BT.node (o190 P) BT.nil BT.nil) (BT.node (o254 P) BT.nil BT.nil)) (BT.node (o158 P) (BT.node (o222 P) BT.nil BT.nil) BT.nil)))) (BT.node (o45 P) (BT.node (o56 P) (BT.node (o72 P) (BT.node (o106 P) (BT.node (o170 P) BT.nil BT.nil) (BT.node (o234 P) BT.nil BT.nil)) (BT.node (o138 P) (BT.node (o202 P) BT.nil BT.nil) BT.nil)) (BT.node (o88 P) (BT.node (o122 P) (BT.node (o186 P) BT.nil BT.nil) (BT.node (o250 P) BT.nil BT.nil)) (BT.node (o154 P) (BT.node (o218 P) BT.nil BT.nil) BT.nil))) (BT.node (o64 P) (BT.node (o80 P) (BT.node (o114 P) (BT.node (o178 P) BT.nil BT.nil) (BT.node (o242 P) BT.nil BT.nil)) (BT.node (o146 P) (BT.node (o210 P) BT.nil BT.nil) BT.nil)) (BT.node (o96 P) (BT.node (o130 P) (BT.node (o194 P) BT.nil BT.nil) (BT.node (o258 P) BT.nil BT.nil)) (BT.node (o162 P) (BT.node (o226 P) BT.nil BT.nil) BT.nil)))))) (BT.node (o47 P) (BT.node (boot_o_4 P) (BT.node (boot_o_8 P) (BT.node (o51 P) (BT.node (o67 P) (BT.node (o101 P) (BT.node (o165 P) BT.nil BT.nil) (BT.node (o229 P) BT.nil BT.nil)) (BT.node (o133 P) (BT.node (o197 P) BT.nil BT.nil) (BT.node (o261 P) BT.nil BT.nil))) (BT.node (o83 P) (BT.node (o117 P) (BT.node (o181 P) BT.nil BT.nil) (BT.node (o245 P) BT.nil BT.nil)) (BT.node (o149 P) (BT.node (o213 P) BT.nil BT.nil) BT.nil))) (BT.node (o59 P) (BT.node (o75 P) (BT.node (o109 P) (BT.node (o173 P) BT.nil BT.nil) (BT.node (o237 P) BT.nil BT.nil)) (BT.node (o141 P) (BT.node (o205 P) BT.nil BT.nil) BT.nil)) (BT.node (o91 P) (BT.node (o125 P) (BT.node (o189 P) BT.nil BT.nil) (BT.node (o253 P) BT.nil BT.nil)) (BT.node (o157 P) (BT.node (o221 P) BT.nil BT.nil) BT.nil)))) (BT.node (o98 P) (BT.node (o55 P) (BT.node (o71 P) (BT.node (o105 P) (BT.node (o169 P) BT.nil BT.nil) (BT.node (o233 P) BT.nil BT.nil)) (BT.node (o137 P) (BT.node (o201 P) BT.nil BT.nil) BT.nil)) (BT.node (o87 P) (BT.node (o121 P) (BT.node (o185 P) BT.nil BT.nil) (BT.node (o249 P) BT.nil BT.nil)) (BT.node (o153 P) (BT.node (o217 P) BT.nil BT.nil) BT.nil))) (BT.node (o63 P) (BT.node (o79 P) (BT.node (o113 P) (BT.node (o177 P) BT.nil BT.nil) (BT.node (o241 P) BT.nil BT.nil)) (BT.node (o145 P) (BT.node (o209 P) BT.nil BT.nil) BT.nil)) (BT.node (o95 P) (BT.node (o129 P) (BT.node (o193 P) BT.nil BT.nil) (BT.node (o257 P) BT.nil BT.nil)) (BT.node (o161 P) (BT.node (o225 P) BT.nil BT.nil) BT.nil))))) (BT.node (boot_o_6 P) (BT.node (boot_o_10 P) (BT.node (o53 P) (BT.node (o69 P) (BT.node (o103 P) (BT.node (o167 P) BT.nil BT.nil) (BT.node (o231 P) BT.nil BT.nil)) (BT.node (o135 P) (BT.node (o199 P) BT.nil BT.nil) (BT.node (o263 P) BT.nil BT.nil))) (BT.node (o85 P) (BT.node (o119 P) (BT.node (o183 P) BT.nil BT.nil) (BT.node (o247 P) BT.nil BT.nil)) (BT.node (o151 P) (BT.node (o215 P) BT.nil BT.nil) BT.nil))) (BT.node (o61 P) (BT.node (o77 P) (BT.node (o111 P) (BT.node (o175 P) BT.nil BT.nil) (BT.node (o239 P) BT.nil BT.nil)) (BT.node (o143 P) (BT.node (o207 P) BT.nil BT.nil) BT.nil)) (BT.node (o93 P) (BT.node (o127 P) (BT.node (o191 P) BT.nil BT.nil) (BT.node (o255 P) BT.nil BT.nil)) (BT.node (o159 P) (BT.node (o223 P) BT.nil BT.nil) BT.nil)))) (BT.node (o46 P) (BT.node (o57 P) (BT.node (o73 P) (BT.node (o107 P) (BT.node (o171 P) BT.nil BT.nil) (BT.node (o235 P) BT.nil BT.nil)) (BT.node (o139 P) (BT.node (o203 P) BT.nil BT.nil) BT.nil)) (BT.node (o89 P) (BT.node (o123 P) (BT.node (o187 P) BT.nil BT.nil) (BT.node (o251 P) BT.nil BT.nil)) (BT.node (o155 P) (BT.node (o219 P) BT.nil BT.nil) BT.nil))) (BT.node (o65 P) (BT.node (o81 P) (BT.node (o115 P) (BT.node (o179 P) BT.nil BT.nil) (BT.node (o243 P) BT.nil BT.nil)) (BT.node (o147 P) (BT.node (o211 P) BT.nil BT.nil) BT.nil)) (BT.node (o99 P) (BT.node (o131 P) (BT.node (o195 P) BT.nil BT.nil) (BT.node (o259 P) BT.nil BT.nil)) (BT.node (o163 P) (BT.node (o227 P) BT.nil BT.nil) BT.nil))))))
noncomputable def tree330 : Params → BT := fun P => BT.node (boot_o_0 P) (BT.node (boot_o_1 P) (BT.node (o265 P) (BT.node (boot_o_7 P) (BT.node (o50 P) (BT.node (o66 P) (BT.node (o100 P) (BT.node (o164 P) (BT.node (o294 P) BT.nil BT.nil) BT.nil) (BT.node (o228 P) BT.nil BT.nil)) (BT.node (o132 P) (BT.node (o196 P) (BT.node (o326 P) BT.nil BT.nil) BT.nil) (BT.node (o260 P) BT.nil BT.nil))) (BT.node (o82 P) (BT.node (o116 P) (BT.node (o180 P) (BT.node (o310 P) BT.nil BT.nil) BT.nil) (BT.node (o244 P) BT.nil BT.nil)) (BT.node (o148 P) (BT.node (o212 P) BT.nil BT.nil) (BT.node (o278 P) BT.nil BT.nil)))) (BT.node (o58 P) (BT.node (o74 P) (BT.node (o108 P) (BT.node (o172 P) (BT.node (o302 P) BT.nil BT.nil) BT.nil) (BT.node (o236 P) BT.nil BT.nil)) (BT.node (o140 P) (BT.node (o204 P) BT.nil BT.nil) (BT.node (o270 P) BT.nil BT.nil))) (BT.node (o90 P) (BT.node (o124 P) (BT.node (o188 P) (BT.node (o318 P) BT.nil BT.nil) BT.nil) (BT.node (o252 P) BT.nil BT.nil)) (BT.node (o156 P) (BT.node (o220 P) BT.nil BT.nil) (BT.node (o286 P) BT.nil BT.nil))))) (BT.node (o43 P) (BT.node (o54 P) (BT.node (o70 P) (BT.node (o104 P) (BT.node (o168 P) (BT.node (o298 P) BT.nil BT.nil) BT.nil) (BT.node (o232 P) BT.nil BT.nil)) (BT.node (o136 P) (BT.node (o200 P) (BT.node (o330 P) BT.nil BT.nil) BT.nil) (BT.node (o264 P) BT.nil BT.nil))) (BT.node (o86 P) (BT.node (o120 P) (BT.node (o184 P) (BT.node (o314 P) BT.nil BT.nil) BT.nil) (BT.node (o248 P) BT.nil BT.nil)) (BT.node (o152 P) (BT.node (o216 P) BT.nil BT.nil) (BT.node (o282 P) BT.nil BT.nil)))) (BT.node (o62 P) (BT.node (o78 P) (BT.node (o112 P) (BT.node (o176 P) (BT.node (o306 P) BT.nil BT.nil) BT.nil) (BT.node (o240 P) BT.nil BT.nil)) (BT.node (o144 P) (BT.node (o208 P) BT.nil BT.nil) (BT.node (o274 P) BT.nil BT.nil))) (BT.node (o94 P) (BT.node (o128 P) (BT.node (o192 P) (BT.node (o322 P) BT.nil BT.nil) BT.nil) (BT.node (o256 P) BT.nil BT.nil)) (BT.node (o160 P) (BT.node (o224 P) BT.nil BT.nil) (BT.node (o290 P) BT.nil BT.nil)))))) (BT.node (boot_o_5 P) (BT.node (boot_o_9 P) (BT.node (o52 P) (BT.node (o68 P) (BT.node (o102 P) (BT.node (o166 P) (BT.node (o296 P) BT.nil BT.nil) BT.nil) (BT.node (o230 P) BT.nil BT.nil)) (BT.node (o134 P) (BT.node (o198 P) (BT.node (o328 P) BT.nil BT.nil) BT.nil) (BT.node (o262 P) BT.nil BT.nil))) (BT.node (o84 P) (BT.node (o118 P) (BT.node (o182 P) (BT.node (o312 P) BT.nil BT.nil) BT.nil) (BT.node (o246 P) BT.nil BT.nil)) (BT.node (o150 P) (BT.node (o214 P) BT.nil BT.nil) (BT.node (o280 P) BT.nil BT.nil)))) (BT.node (o60 P) (BT.node (o76 P) (BT.node (o110 P) (BT.node (o174 P) (BT.node (o304 P) BT.nil BT.nil) BT.nil) (BT.node (o238 P) BT.nil BT.nil)) (BT.node (o142 P) (BT.node (o206 P) BT.nil BT.nil) (BT.node (o272 P) BT.nil BT.nil))) (BT.node (o92 P) (BT.node (o126 P) (BT.node (o190 P) (BT.node (o320 P) BT.nil BT.nil) BT.nil) (BT.node (o254 P) BT.nil BT.nil)) (BT.node (o158 P) (BT.node (o222 P) BT.nil BT.nil) (BT.node (o288 P) BT.nil BT.nil))))) (BT.node (o45 P) (BT.node (o56 P) (BT.node (o72 P) (BT.node (o106 P) (BT.node (o170 P) (BT.node (o300 P) BT.nil BT.nil) BT.nil) (BT.node (o234 P) BT.nil BT.nil)) (BT.node (o138 P) (BT.node (o202 P) BT.nil BT.nil) (BT.node (o268 P) BT.nil BT.nil))) (BT.node (o88 P) (BT.node (o122 P) (BT.node (o186 P) (BT.node (o316 P) BT.nil BT.nil) BT.nil) (BT.node (o250 P) BT.nil BT.nil)) (BT.node (o154 P) (BT.node (o218 P) BT.nil BT.nil) (BT.node (o284 P) BT.nil BT.nil)))) (BT.node (o64 P) (BT.node (o80 P) (BT.node (o114 P) (BT.node (o178 P) (BT.node (o308 P) BT.nil BT.nil) BT.nil) (BT.node (o242 P) BT.nil BT.nil)) (BT.node (o146 P) (BT.node (o210 P) BT.nil BT.nil) (BT.node (o276 P) BT.nil BT.nil))) (BT.node (o96 P) (BT.node (o130 P) (BT.node (o194 P) (BT.node (o324 P) BT.nil BT.nil) BT.nil) (BT.node (o258 P) BT.nil BT.nil)) (BT.node (o162 P) (BT.node (o226 P) BT.nil BT.nil) (BT.node (o292 P) BT.nil BT.nil))))))) (BT.node (o47 P) (BT.node (boot_o_4 P) (BT.node (boot_o_8 P) (BT.node (o51 P) (BT.node (o67 P) (BT.node (o101 P) (BT.node (o165 P) (BT.node (o295 P) BT.nil BT.nil) BT.nil) (BT.node (o229 P) BT.nil BT.nil)) (BT.node (o133 P) (BT.node (o197 P) (BT.node (o327 P) BT.nil BT.nil) BT.nil) (BT.node (o261 P) BT.nil BT.nil))) (BT.node (o83 P) (BT.node (o117 P) (BT.node (o181 P) (BT.node (o311 P) BT.nil BT.nil) BT.nil) (BT.node (o245 P) BT.nil BT.nil)) (BT.node (o149 P) (BT.node (o213 P) BT.nil BT.nil) (BT.node (o279 P) BT.nil BT.nil)))) (BT.node (o59 P) (BT.node (o75 P) (BT.node (o109 P) (BT.node (o173 P) (BT.node (o303 P) BT.nil BT.nil) BT.nil) (BT.node (o237 P) BT.nil BT.nil)) (BT.node (o141 P) (BT.node (o205 P) BT.nil BT.nil) (BT.node (o271 P) BT.nil BT.nil))) (BT.node (o91 P) (BT.node (o125 P) (BT.node (o189 P) (BT.node (o319 P) BT.nil BT.nil) BT.nil) (BT.node (o253 P) BT.nil BT.nil)) (BT.node (o157 P) (BT.node (o221 P) BT.nil BT.nil) (BT.node (o287 P) BT.nil BT.nil))))) (BT.node (o266 P) (BT.node (o55 P) (BT.node (o71 P) (BT.node (o105 P) (BT.node (o169 P) (BT.node (o299 P) BT.nil BT.nil) BT.nil) (BT.node (o233 P) BT.nil BT.nil)) (BT.node (o137 P) (BT.node (o201 P) BT.nil BT.nil) (BT.node (o267 P) BT.nil BT.nil))) (BT.node (o87 P) (BT.node (o121 P) (BT.node (o185 P) (BT.node (o315 P) BT.nil BT.nil) BT.nil) (BT.node (o249 P) BT.nil BT.nil)) (BT.node (o153 P) (BT.node (o217 P) BT.nil BT.nil) (BT.node (o283 P) BT.nil BT.nil)))) (BT.node (o63 P) (BT.node (o79 P) (BT.node (o113 P) (BT.node (o177 P) (BT.node (o307 P) BT.nil BT.nil) BT.nil) (BT.node (o241 P) BT.nil BT.nil)) (BT.node (o145 P) (BT.node (o209 P) BT.nil BT.nil) (BT.node (o275 P) BT.nil BT.nil))) (BT.node (o95 P) (BT.node (o129 P) (BT.node (o193 P) (BT.node (o323 P) BT.nil BT.nil) BT.nil) (BT.node (o257 P) BT.nil BT.nil)) (BT.node (o161 P) (BT.node (o225 P) BT.nil BT.nil) (BT.node (o291 P) BT.nil BT.nil)))))) (BT.node (boot_o_6 P) (BT.node (boot_o_10 P) (BT.node (o53 P) (BT.node (o69 P) (BT.node (o103 P) (BT.node (o167 P) (BT.node (o297 P) BT.nil BT.nil) BT.nil) (BT.node (o231 P) BT.nil BT.nil)) (BT.node (o135 P) (BT.node (o199 P) (BT.node (o329 P) BT.nil BT.nil) BT.nil) (BT.node (o263 P) BT.nil BT.nil))) (BT.node (o85 P) (BT.node (o119 P) (BT.node (o183 P) (BT.node (o313 P) BT.nil BT.nil) BT.nil) (BT.node (o247 P) BT.nil BT.nil)) (BT.node (o151 P) (BT.node (o215 P) BT.nil BT.nil) (BT.node (o281 P) BT.nil BT.nil)))) (BT.node (o61 P) (BT.node (o77 P) (BT.node (o111 P) (BT.node (o175 P) (BT.node (o305 P) BT.nil BT.nil) BT.nil) (BT.node (o239 P) BT.nil BT.nil)) (BT.node (o143 P) (BT.node (o207 P) BT.nil BT.nil) (BT.node (o273 P) BT.nil BT.nil))) (BT.node (o93 P) (BT.node (o127 P) (BT.node (o191 P) (BT.node (o321 P) BT.nil BT.nil) BT.nil) (BT.node (o255 P) BT.nil BT.nil)) (BT.node (o159 P) (BT.node (o223 P) BT.nil BT.nil) (BT.node (o289 P) BT.nil BT.nil))))) (BT.node (o46 P) (BT.node (o57 P) (BT.node (o73 P) (BT.node (o107 P) (BT.node (o171 P) (BT.node (o301 P) BT.nil BT.nil) BT.nil) (BT.node (o235 P) BT.nil BT.nil)) (BT.node (o139 P) (BT.node (o203 P) BT.nil BT.nil) (BT.node (o269 P) BT.nil BT.nil))) (BT.node (o89 P) (BT.node (o123 P) (BT.node (o187 P) (BT.node (o317 P) BT.nil BT.nil) BT.nil) (BT.node (o251 P) BT.nil BT.nil)) (BT.node (o155 P) (BT.node (o219 P) BT.nil BT.nil) (BT.node (o285 P) BT.nil BT.nil)))) (BT.node (o65 P) (BT.node (o81 P) (BT.node (o115 P) (BT.node (o179 P) (BT.node (o309 P) BT.nil BT.nil) BT.nil) (BT.node (o243 P) BT.nil BT.nil)) (BT.node (o147 P) (BT.node (o211 P) BT.nil BT.nil) (BT.node (o277 P) BT.nil BT.nil))) (BT.node (o99 P) (BT.node (o131 P) (BT.node (o195 P) (BT.node (o325 P) BT.nil BT.nil) BT.nil) (BT.node (o259 P) BT.nil BT.nil)) (BT.node (o163 P) (BT.node (o227 P) BT.nil BT.nil) (BT.node (o293 P) BT.nil BT.nil)))))))
noncomputable def tree468 : Params → BT := fun P => BT.node (boot_o_0 P) (BT.node (boot_o_1 P) (BT.node (o331 P) (BT.node (boot_o_7 P) (BT.node (o50 P) (BT.node (o66 P) (BT.node (o100 P) (BT.node (o164 P) (BT.node (o294 P) BT.nil BT.nil) (BT.node (o424 P) BT.nil BT.nil)) (BT.node (o228 P) (BT.node (o360 P) BT.nil BT.nil) BT.nil)) (BT.node (o132 P) (BT.node (o196 P) (BT.node (o326 P) BT.nil BT.nil) (BT.node (o456 P) BT.nil BT.nil)) (BT.node (o260 P) (BT.node (o392 P) BT.nil BT.nil) BT.nil))) (BT.node (o82 P) (BT.node (o116 P) (BT.node (o180 P) (BT.node (o310 P) BT.nil BT.nil) (BT.node (o440 P) BT.nil BT.nil)) (BT.node (o244 P) (BT.node (o376 P) BT.nil BT.nil) BT.nil)) (BT.node (o148 P) (BT.node (o212 P) (BT.node (o344 P) BT.nil BT.nil) BT.nil) (BT.node (o278 P) (BT.node (o408 P) BT.nil BT.nil) BT.nil)))) (BT.node (o58 P) (BT.node (o74 P) (BT.node (o108 P) (BT.node (o172 P) (BT.node (o302 P) BT.nil BT.nil) (BT.node (o432 P) BT.nil BT.nil)) (BT.node (o236 P) (BT.node (o368 P) BT.nil BT.nil) BT.nil)) (BT.node (o140 P) (BT.node (o204 P) (BT.node (o336 P) BT.nil BT.nil) (BT.node (o464 P) BT.nil BT.nil)) (BT.node (o270 P) (BT.node (o400 P) BT.nil BT.nil) BT.nil))) (BT.node (o90 P) (BT.node (o124 P) (BT.node (o188 P) (BT.node (o318 P) BT.nil BT.nil) (BT.node (o448 P) BT.nil BT.nil)) (BT.node (o252 P) (BT.node (o384 P) BT.nil BT.nil) BT.nil)) (BT.node (o156 P) (BT.node (o220 P) (BT.node (o352 P) BT.nil BT.nil) BT.nil) (BT.node (o286 P) (BT.node (o416 P) BT.nil BT.nil) BT.nil))))) (BT.node (o43 P) (BT.node (o54 P) (BT.node (o70 P) (BT.node (o104 P) (BT.node (o168 P) (BT.node (o298 P) BT.nil BT.nil) (BT.node (o428 P) BT.nil BT.nil)) (BT.node (o232 P) (BT.node (o364 P) BT.nil BT.nil) BT.nil)) (BT.node (o136 P) (BT.node (o200 P) (BT.node (o330 P) BT.nil BT.nil) (BT.node (o460 P) BT.nil BT.nil)) (BT.node (o264 P) (BT.node (o396 P) BT.nil BT.nil) BT.nil))) (BT.node (o86 P) (BT.node (o120 P) (BT.node (o184 P) (BT.node (o314 P) BT.nil BT.nil) (BT.node (o444 P) BT.nil BT.nil)) (BT.node (o248 P) (BT.node (o380 P) BT.nil BT.nil) BT.nil)) (BT.node (o152 P) (BT.node (o216 P) (BT.node (o348 P) BT.nil BT.nil) BT.nil) (BT.node (o282 P) (BT.node (o412 P) BT.nil BT.nil) BT.nil)))) (BT.node (o62 P) (BT.node (o78 P) (BT.node (o112 P) (BT.node (o176 P) (BT.node (o306 P) BT.nil BT.nil) (BT.node (o436 P) BT.nil BT.nil)) (BT.node (o240 P) (BT.node (o372 P) BT.nil BT.nil) BT.nil)) (BT.node (o144 P) (BT.node (o208 P) (BT.node (o340 P) BT.nil BT.nil) (BT.node (o468 P) BT.nil BT.nil)) (BT.node (o274 P) (BT.node (o404 P) BT.nil BT.nil) BT.nil))) (BT.node (o94 P) (BT.node (o128 P) (BT.node (o192 P) (BT.node (o322 P) BT.nil BT.nil) (BT.node (o452 P) BT.nil BT.nil)) (BT.node (o256 P) (BT.node (o388 P) BT.nil BT.nil) BT.nil)) (BT.node (o160 P) (BT.node (o224 P) (BT.node (o356 P) BT.nil BT.nil) BT.nil) (BT.node (o290 P) (BT.node (o420 P) BT.nil BT.nil) BT.nil)))))) (BT.node (boot_o_5 P) (BT.node (boot_o_9 P) (BT.node (o52 P) (BT.node (o68 P) (BT.node (o102 P) (BT.node (o166 P) (BT.node (o296 P) BT.nil BT.nil) (BT.node (o426 P) BT.nil BT.nil)) (BT.node (o230 P) (BT.node (o362 P) BT.nil BT.nil) BT.nil)) (BT.node (o134 P) (BT.node (o198 P) (BT.node (o328 P) BT.nil BT.nil) (BT.node (o458 P) BT.nil BT.nil)) (BT.node (o262 P) (BT.node (o394 P) BT.nil BT.nil) BT.nil))) (BT.node (o84 P) (BT.node (o118 P) (BT.node (o182 P) (BT.node (o312 P) BT.nil BT.nil) (BT.node (o442 P) BT.nil BT.nil)) (BT.node (o246 P) (BT.node (o378 P) BT.nil BT.nil) BT.nil)) (BT.node (o150 P) (BT.node (o214 P) (BT.node (o346 P) BT.nil BT.nil) BT.nil) (BT.node (o280 P) (BT.node (o410 P) BT.nil BT.nil) BT.nil)))) (BT.node (o60 P) (BT.node (o76 P) (BT.node (o110 P) (BT.node (o174 P) (BT.node (o304 P) BT.nil BT.nil) (BT.node (o434 P) BT.nil BT.nil)) (BT.node (o238 P) (BT.node (o370 P) BT.nil BT.nil) BT.nil)) (BT.node (o142 P) (BT.node (o206 P) (BT.node (o338 P) BT.nil BT.nil) (BT.node (o466 P) BT.nil BT.nil)) (BT.node (o272 P) (BT.node (o402 P) BT.nil BT.nil) BT.nil))) (BT.node (o92 P) (BT.node (o126 P) (BT.node (o190 P) (BT.node (o320 P) BT.nil BT.nil) (BT.node (o450 P) BT.nil BT.nil)) (BT.node (o254 P) (BT.node (o386 P) BT.nil BT.nil) BT.nil)) (BT.node (o158 P) (BT.node (o222 P) (BT.node (o354 P) BT.nil BT.nil) BT.nil) (BT.node (o288 P) (BT.node (o418 P) BT.nil BT.nil) BT.nil))))) (BT.node (o45 P) (BT.node (o56 P) (BT.node (o72 P) (BT.node (o106 P) (BT.node (o170 P) (BT.node (o300 P) BT.nil BT.nil) (BT.node (o430 P) BT.nil BT.nil)) (BT.node (o234 P) (BT.node (o366 P) BT.nil BT.nil) BT.nil)) (BT.node (o138 P) (BT.node (o202 P) (BT.node (o334 P) BT.nil BT.nil) (BT.node (o462 P) BT.nil BT.nil)) (BT.node (o268 P) (BT.node (o398 P) BT.nil BT.nil) BT.nil))) (BT.node (o88 P) (BT.node (o122 P) (BT.node (o186 P) (BT.node (o316 P) BT.nil BT.nil) (BT.node (o446 P) BT.nil BT.nil)) (BT.node (o250 P) (BT.node (o382 P) BT.nil BT.nil) BT.nil)) (BT.node (o154 P) (BT.node (o218 P) (BT.node (o350 P) BT.nil BT.nil) BT.nil) (BT.node (o284 P) (BT.node (o414 P) BT.nil BT.nil) BT.nil)))) (BT.node (o64 P) (BT.node (o80 P) (BT.node (o114 P) (BT.node (o178 P) (BT.node (o308 P) BT.nil BT.nil) (BT.node (o438 P) BT.nil BT.nil)) (BT.node (o242 P) (BT.node (o374 P) BT.nil BT.nil) BT.nil)) (BT.node (o146 P) (BT.node (o210 P) (BT.node (o342 P) BT.nil BT.nil) BT.nil) (BT.node (o276 P) (BT.node (o406 P) BT.nil BT.nil) BT.nil))) (BT.node (o96 P) (BT.node (o130 P) (BT.node (o194 P) (BT.node (o324 P) BT.nil BT.nil) (BT.node (o454 P) BT.nil BT.nil)) (BT.node (o258 P) (BT.node (o390 P) BT.nil BT.nil) BT.nil)) (BT.node (o162 P) (BT.node (o226 P) (BT.node (o358 P) BT.nil BT.nil) BT.nil) (BT.node (o292 P) (BT.node (o422 P) BT.nil BT.nil) BT.nil))))))) (BT.node (o47 P) (BT.node (boot_o_4 P) (BT.node (boot_o_8 P) (BT.node (o51 P) (BT.node (o67 P) (BT.node (o101 P) (BT.node (o165 P) (BT.node (o295 P) BT.nil BT.nil) (BT.node (o425 P) BT.nil BT.nil)) (BT.node (o229 P) (BT.node (o361 P) BT.nil BT.nil) BT.nil)) (BT.node (o133 P) (BT.node (o197 P) (BT.node (o327 P) BT.nil BT.nil) (BT.node (o457 P) BT.nil BT.nil)) (BT.node (o261 P) (BT.node (o393 P) BT.nil BT.nil) BT.nil))) (BT.node (o83 P) (BT.node (o117 P) (BT.node (o181 P) (BT.node (o311 P) BT.nil BT.nil) (BT.node (o441 P) BT.nil BT.nil)) (BT.node (o245 P) (BT.node (o377 P) BT.nil BT.nil) BT.nil)) (BT.node (o149 P) (BT.node (o213 P) (BT.node (o345 P) BT.nil BT.nil) BT.nil) (BT.node (o279 P) (BT.node (o409 P) BT.nil BT.nil) BT.nil)))) (BT.node (o59 P) (BT.node (o75 P) (BT.node (o109 P) (BT.node (o173 P) (BT.node (o303 P) BT.nil BT.nil) (BT.node (o433 P) BT.nil BT.nil)) (BT.node (o237 P) (BT.node (o369 P) BT.nil BT.nil) BT.nil)) (BT.node (o141 P) (BT.node (o205 P) (BT.node (o337 P) BT.nil BT.nil) (BT.node (o465 P) BT.nil BT.nil)) (BT.node (o271 P) (BT.node (o401 P) BT.nil BT.nil) BT.nil))) (BT.node (o91 P) (BT.node (o125 P) (BT.node (o189 P) (BT.node (o319 P) BT.nil BT.nil) (BT.node (o449 P) BT.nil BT.nil)) (BT.node (o253 P) (BT.node (o385 P) BT.nil BT.nil) BT.nil)) (BT.node (o157 P) (BT.node (o221 P) (BT.node (o353 P) BT.nil BT.nil) BT.nil) (BT.node (o287 P) (BT.node (o417 P) BT.nil BT.nil) BT.nil))))) (BT.node (o332 P) (BT.node (o55 P) (BT.node (o71 P) (BT.node (o105 P) (BT.node (o169 P) (BT.node (o299 P) BT.nil BT.nil) (BT.node (o429 P) BT.nil BT.nil)) (BT.node (o233 P) (BT.node (o365 P) BT.nil BT.nil) BT.nil)) (BT.node (o137 P) (BT.node (o201 P) (BT.node (o333 P) BT.nil BT.nil) (BT.node (o461 P) BT.nil BT.nil)) (BT.node (o267 P) (BT.node (o397 P) BT.nil BT.nil) BT.nil))) (BT.node (o87 P) (BT.node (o121 P) (BT.node (o185 P) (BT.node (o315 P) BT.nil BT.nil) (BT.node (o445 P) BT.nil BT.nil)) (BT.node (o249 P) (BT.node (o381 P) BT.nil BT.nil) BT.nil)) (BT.node (o153 P) (BT.node (o217 P) (BT.node (o349 P) BT.nil BT.nil) BT.nil) (BT.node (o283 P) (BT.node (o413 P) BT.nil BT.nil) BT.nil)))) (BT.node (o63 P) (BT.node (o79 P) (BT.node (o113 P) (BT.node (o177 P) (BT.node (o307 P) BT.nil BT.nil) (BT.node (o437 P) BT.nil BT.nil)) (BT.node (o241 P) (BT.node (o373 P) BT.nil BT.nil) BT.nil)) (BT.node (o145 P) (BT.node (o209 P) (BT.node (o341 P) BT.nil BT.nil) BT.nil) (BT.node (o275 P) (BT.node (o405 P) BT.nil BT.nil) BT.nil))) (BT.node (o95 P) (BT.node (o129 P) (BT.node (o193 P) (BT.node (o323 P) BT.nil BT.nil) (BT.node (o453 P) BT.nil BT.nil)) (BT.node (o257 P) (BT.node (o389 P) BT.nil BT.nil) BT.nil)) (BT.node (o161 P) (BT.node (o225 P) (BT.node (o357 P) BT.nil BT.nil) BT.nil) (BT.node (o291 P) (BT.node (o421 P) BT.nil BT.nil) BT.nil)))))) (BT.node (boot_o_6 P) (BT.node (boot_o_10 P) (BT.node (o53 P) (BT.node (o69 P) (BT.node (o103 P) (BT.node (o167 P) (BT.node (o297 P) BT.nil BT.nil) (BT.node (o427 P) BT.nil BT.nil)) (BT.node (o231 P) (BT.node (o363 P) BT.nil BT.nil) BT.nil)) (BT.node (o135 P) (BT.node (o199 P) (BT.node (o329 P) BT.nil BT.nil) (BT.node (o459 P) BT.nil BT.nil)) (BT.node (o263 P) (BT.node (o395 P) BT.nil BT.nil) BT.nil))) (BT.node (o85 P) (BT.node (o119 P) (BT.node (o183 P) (BT.node (o313 P) BT.nil BT.nil) (BT.node (o443 P) BT.nil BT.nil)) (BT.node (o247 P) (BT.node (o379 P) BT.nil BT.nil) BT.nil)) (BT.node (o151 P) (BT.node (o215 P) (BT.node (o347 P) BT.nil BT.nil) BT.nil) (BT.node (o281 P) (BT.node (o411 P) BT.nil BT.nil) BT.nil)))) (BT.node (o61 P) (BT.node (o77 P) (BT.node (o111 P) (BT.node (o175 P) (BT.node (o305 P) BT.nil BT.nil) (BT.node (o435 P) BT.nil BT.nil)) (BT.node (o239 P) (BT.node (o371 P) BT.nil BT.nil) BT.nil)) (BT.node (o143 P) (BT.node (o207 P) (BT.node (o339 P) BT.nil BT.nil) (BT.node (o467 P) BT.nil BT.nil)) (BT.node (o273 P) (BT.node (o403 P) BT.nil BT.nil) BT.nil))) (BT.node (o93 P) (BT.node (o127 P) (BT.node (o191 P) (BT.node (o321 P) BT.nil BT.nil) (BT.node (o451 P) BT.nil BT.nil)) (BT.node (o255 P) (BT.node (o387 P) BT.nil BT.nil) BT.nil)) (BT.node (o159 P) (BT.node (o223 P) (BT.node (o355 P) BT.nil BT.nil) BT.nil) (BT.node (o289 P) (BT.node (o419 P) BT.nil BT.nil) BT.nil))))) (BT.node (o46 P) (BT.node (o57 P) (BT.node (o73 P) (BT.node (o107 P) (BT.node (o171 P) (BT.node (o301 P) BT.nil BT.nil) (BT.node (o431 P) BT.nil BT.nil)) (BT.node (o235 P) (BT.node (o367 P) BT.nil BT.nil) BT.nil)) (BT.node (o139 P) (BT.node (o203 P) (BT.node (o335 P) BT.nil BT.nil) (BT.node (o463 P) BT.nil BT.nil)) (BT.node (o269 P) (BT.node (o399 P) BT.nil BT.nil) BT.nil))) (BT.node (o89 P) (BT.node (o123 P) (BT.node (o187 P) (BT.node (o317 P) BT.nil BT.nil) (BT.node (o447 P) BT.nil BT.nil)) (BT.node (o251 P) (BT.node (o383 P) BT.nil BT.nil) BT.nil)) (BT.node (o155 P) (BT.node (o219 P) (BT.node (o351 P) BT.nil BT.nil) BT.nil) (BT.node (o285 P) (BT.node (o415 P) BT.nil BT.nil) BT.nil)))) (BT.node (o65 P) (BT.node (o81 P) (BT.node (o115 P) (BT.node (o179 P) (BT.node (o309 P) BT.nil BT.nil) (BT.node (o439 P) BT.nil BT.nil)) (BT.node (o243 P) (BT.node (o375 P) BT.nil BT.nil) BT.nil)) (BT.node (o147 P) (BT.node (o211 P) (BT.node (o343 P) BT.nil BT.nil) BT.nil) (BT.node (o277 P) (BT.node (o407 P) BT.nil BT.nil) BT.nil))) (BT.node (o99 P) (BT.node (o131 P) (BT.node (o195 P) (BT.node (o325 P) BT.nil BT.nil) (BT.node (o455 P) BT.nil BT.nil)) (BT.node (o259 P) (BT.node (o391 P) BT.nil BT.nil) BT.nil)) (BT.node (o163 P) (BT.node (o227 P) (BT.node (o359 P) BT.nil BT.nil) BT.nil) (BT.node (o293 P) (BT.node (o423 P) BT.nil BT.nil) BT.nil)))))))
noncomputable def tree544 : Params → BT := fun P => BT.node (boot_o_0 P) (BT.node (boot_o_1 P) (BT.node (o469 P) (BT.node (boot_o_7 P) (BT.node (o50 P) (BT.node (o66 P) (BT.node (o100 P) (BT.node (o164 P) (BT.node (o294 P) BT.nil BT.nil) (BT.node (o424 P) BT.nil BT.nil)) (BT.node (o228 P) (BT.node (o360 P) BT.nil BT.nil) (BT.node (o490 P) BT.nil BT.nil))) (BT.node (o132 P) (BT.node (o196 P) (BT.node (o326 P) BT.nil BT.nil) (BT.node (o456 P) BT.nil BT.nil)) (BT.node (o260 P) (BT.node (o392 P) BT.nil BT.nil) (BT.node (o522 P) BT.nil BT.nil)))) (BT.node (o82 P) (BT.node (o116 P) (BT.node (o180 P) (BT.node (o310 P) BT.nil BT.nil) (BT.node (o440 P) BT.nil BT.nil)) (BT.node (o244 P) (BT.node (o376 P) BT.nil BT.nil) (BT.node (o506 P) BT.nil BT.nil))) (BT.node (o148 P) (BT.node (o212 P) (BT.node (o344 P) BT.nil BT.nil) (BT.node (o474 P) BT.nil BT.nil)) (BT.node (o278 P) (BT.node (o408 P) BT.nil BT.nil) (BT.node (o538 P) BT.nil BT.nil))))) (BT.node (o58 P) (BT.node (o74 P) (BT.node (o108 P) (BT.node (o172 P) (BT.node (o302 P) BT.nil BT.nil) (BT.node (o432 P) BT.nil BT.nil)) (BT.node (o236 P) (BT.node (o368 P) BT.nil BT.nil) (BT.node (o498 P) BT.nil BT.nil))) (BT.node (o140 P) (BT.node (o204 P) (BT.node (o336 P) BT.nil BT.nil) (BT.node (o464 P) BT.nil BT.nil)) (BT.node (o270 P) (BT.node (o400 P) BT.nil BT.nil) (BT.node (o530 P) BT.nil BT.nil)))) (BT.node (o90 P) (BT.node (o124 P) (BT.node (o188 P) (BT.node (o318 P) BT.nil BT.nil) (BT.node (o448 P) BT.nil BT.nil)) (BT.node (o252 P) (BT.node (o384 P) BT.nil BT.nil) (BT.node (o514 P) BT.nil BT.nil))) (BT.node (o156 P) (BT.node (o220 P) (BT.node (o352 P) BT.nil BT.nil) (BT.node (o482 P) BT.nil BT.nil)) (BT.node (o286 P) (BT.node (o416 P) BT.nil BT.nil) BT.nil))))) (BT.node (o43 P) (BT.node (o54 P) (BT.node (o70 P) (BT.node (o104 P) (BT.node (o168 P) (BT.node (o298 P) BT.nil BT.nil) (BT.node (o428 P) BT.nil BT.nil)) (BT.node (o232 P) (BT.node (o364 P) BT.nil BT.nil) (BT.node (o494 P) BT.nil BT.nil))) (BT.node (o136 P) (BT.node (o200 P) (BT.node (o330 P) BT.nil BT.nil) (BT.node (o460 P) BT.nil BT.nil)) (BT.node (o264 P) (BT.node (o396 P) BT.nil BT.nil) (BT.node (o526 P) BT.nil BT.nil)))) (BT.node (o86 P) (BT.node (o120 P) (BT.node (o184 P) (BT.node (o314 P) BT.nil BT.nil) (BT.node (o444 P) BT.nil BT.nil)) (BT.node (o248 P) (BT.node (o380 P) BT.nil BT.nil) (BT.node (o510 P) BT.nil BT.nil))) (BT.node (o152 P) (BT.node (o216 P) (BT.node (o348 P) BT.nil BT.nil) (BT.node (o478 P) BT.nil BT.nil)) (BT.node (o282 P) (BT.node (o412 P) BT.nil BT.nil) (BT.node (o542 P) BT.nil BT.nil))))) (BT.node (o62 P) (BT.node (o78 P) (BT.node (o112 P) (BT.node (o176 P) (BT.node (o306 P) BT.nil BT.nil) (BT.node (o436 P) BT.nil BT.nil)) (BT.node (o240 P) (BT.node (o372 P) BT.nil BT.nil) (BT.node (o502 P) BT.nil BT.nil))) (BT.node (o144 P) (BT.node (o208 P) (BT.node (o340 P) BT.nil BT.nil) (BT.node (o468 P) BT.nil BT.nil)) (BT.node (o274 P) (BT.node (o404 P) BT.nil BT.nil) (BT.node (o534 P) BT.nil BT.nil)))) (BT.node (o94 P) (BT.node (o128 P) (BT.node (o192 P) (BT.node (o322 P) BT.nil BT.nil) (BT.node (o452 P) BT.nil BT.nil)) (BT.node (o256 P) (BT.node (o388 P) BT.nil BT.nil) (BT.node (o518 P) BT.nil BT.nil))) (BT.node (o160 P) (BT.node (o224 P) (BT.node (o356 P) BT.nil BT.nil) (BT.node (o486 P) BT.nil BT.nil)) (BT.node (o290 P) (BT.node (o420 P) BT.nil BT.nil) BT.nil)))))) (BT.node (boot_o_5 P) (BT.node (boot_o_9 P) (BT.node (o52 P) (BT.node (o68 P) (BT.node (o102 P) (BT.node (o166 P) (BT.node (o296 P) BT.nil BT.nil) (BT.node (o426 P) BT.nil BT.nil)) (BT.node (o230 P) (BT.node (o362 P) BT.nil BT.nil) (BT.node (o492 P) BT.nil BT.nil))) (BT.node (o134 P) (BT.node (o198 P) (BT.node (o328 P) BT.nil BT.nil) (BT.node (o458 P) BT.nil BT.nil)) (BT.node (o262 P) (BT.node (o394 P) BT.nil BT.nil) (BT.node (o524 P) BT.nil BT.nil)))) (BT.node (o84 P) (BT.node (o118 P) (BT.node (o182 P) (BT.node (o312 P) BT.nil BT.nil) (BT.node (o442 P) BT.nil BT.nil)) (BT.node (o246 P) (BT.node (o378 P) BT.nil BT.nil) (BT.node (o508 P) BT.nil BT.nil))) (BT.node (o150 P) (BT.node (o214 P) (BT.node (o346 P) BT.nil BT.nil) (BT.node (o476 P) BT.nil BT.nil)) (BT.node (o280 P) (BT.node (o410 P) BT.nil BT.nil) (BT.node (o540 P) BT.nil BT.nil))))) (BT.node (o60 P) (BT.node (o76 P) (BT.node (o110 P) (BT.node (o174 P) (BT.node (o304 P) BT.nil BT.nil) (BT.node (o434 P) BT.nil BT.nil)) (BT.node (o238 P) (BT.node (o370 P) BT.nil BT.nil) (BT.node (o500 P) BT.nil BT.nil))) (BT.node (o142 P) (BT.node (o206 P) (BT.node (o338 P) BT.nil BT.nil) (BT.node (o466 P) BT.nil BT.nil)) (BT.node (o272 P) (BT.node (o402 P) BT.nil BT.nil) (BT.node (o532 P) BT.nil BT.nil)))) (BT.node (o92 P) (BT.node (o126 P) (BT.node (o190 P) (BT.node (o320 P) BT.nil BT.nil) (BT.node (o450 P) BT.nil BT.nil)) (BT.node (o254 P) (BT.node (o386 P) BT.nil BT.nil) (BT.node (o516 P) BT.nil BT.nil))) (BT.node (o158 P) (BT.node (o222 P) (BT.node (o354 P) BT.nil BT.nil) (BT.node (o484 P) BT.nil BT.nil)) (BT.node (o288 P) (BT.node (o418 P) BT.nil BT.nil) BT.nil))))) (BT.node (o45 P) (BT.node (o56 P) (BT.node (o72 P) (BT.node (o106 P) (BT.node (o170 P) (BT.node (o300 P) BT.nil BT.nil) (BT.node (o430 P) BT.nil BT.nil)) (BT.node (o234 P) (BT.node (o366 P) BT.nil BT.nil) (BT.node (o496 P) BT.nil BT.nil))) (BT.node (o138 P) (BT.node (o202 P) (BT.node (o334 P) BT.nil BT.nil) (BT.node (o462 P) BT.nil BT.nil)) (BT.node (o268 P) (BT.node (o398 P) BT.nil BT.nil) (BT.node (o528 P) BT.nil BT.nil)))) (BT.node (o88 P) (BT.node (o122 P) (BT.node (o186 P) (BT.node (o316 P) BT.nil BT.nil) (BT.node (o446 P) BT.nil BT.nil)) (BT.node (o250 P) (BT.node (o382 P) BT.nil BT.nil) (BT.node (o512 P) BT.nil BT.nil))) (BT.node (o154 P) (BT.node (o218 P) (BT.node (o350 P) BT.nil BT.nil) (BT.node (o480 P) BT.nil BT.nil)) (BT.node (o284 P) (BT.node (o414 P) BT.nil BT.nil) (BT.node (o544 P) BT.nil BT.nil))))) (BT.node (o64 P) (BT.node (o80 P) (BT.node (o114 P) (BT.node (o178 P) (BT.node (o308 P) BT.nil BT.nil) (BT.node (o438 P) BT.nil BT.nil)) (BT.node (o242 P) (BT.node (o374 P) BT.nil BT.nil) (BT.node (o504 P) BT.nil BT.nil))) (BT.node (o146 P) (BT.node (o210 P) (BT.node (o342 P) BT.nil BT.nil) (BT.node (o472 P) BT.nil BT.nil)) (BT.node (o276 P) (BT.node (o406 P) BT.nil BT.nil) (BT.node (o536 P) BT.nil BT.nil)))) (BT.node (o96 P) (BT.node (o130 P) (BT.node (o194 P) (BT.node (o324 P) BT.nil BT.nil) (BT.node (o454 P) BT.nil BT.nil)) (BT.node (o258 P) (BT.node (o390 P) BT.nil BT.nil) (BT.node (o520 P) BT.nil BT.nil))) (BT.node (o162 P) (BT.node (o226 P) (BT.node (o358 P) BT.nil BT.nil) (BT.node (o488 P) BT.nil BT.nil)) (BT.node (o292 P) (BT.node (o422 P) BT.nil BT.nil) BT.nil))))))) (BT.node (o47 P) (BT.node (boot_o_4 P) (BT.node (boot_o_8 P) (BT.node (o51 P) (BT.node (o67 P) (BT.node (o101 P) (BT.node (o165 P) (BT.node (o295 P) BT.nil BT.nil) (BT.node (o425 P) BT.nil BT.nil)) (BT.node (o229 P) (BT.node (o361 P) BT.nil BT.nil) (BT.node (o491 P) BT.nil BT.nil))) (BT.node (o133 P) (BT.node (o197 P) (BT.node (o327 P) BT.nil BT.nil) (BT.node (o457 P) BT.nil BT.nil)) (BT.node (o261 P) (BT.node (o393 P) BT.nil BT.nil) (BT.node (o523 P) BT.nil BT.nil)))) (BT.node (o83 P) (BT.node (o117 P) (BT.node (o181 P) (BT.node (o311 P) BT.nil BT.nil) (BT.node (o441 P) BT.nil BT.nil)) (BT.node (o245 P) (BT.node (o377 P) BT.nil BT.nil) (BT.node (o507 P) BT.nil BT.nil))) (BT.node (o149 P) (BT.node (o213 P) (BT.node (o345 P) BT.nil BT.nil) (BT.node (o475 P) BT.nil BT.nil)) (BT.node (o279 P) (BT.node (o409 P) BT.nil BT.nil) (BT.node (o539 P) BT.nil BT.nil))))) (BT.node (o59 P) (BT.node (o75 P) (BT.node (o109 P) (BT.node (o173 P) (BT.node (o303 P) BT.nil BT.nil) (BT.node (o433 P) BT.nil BT.nil)) (BT.node (o237 P) (BT.node (o369 P) BT.nil BT.nil) (BT.node (o499 P) BT.nil BT.nil))) (BT.node (o141 P) (BT.node (o205 P) (BT.node (o337 P) BT.nil BT.nil) (BT.node (o465 P) BT.nil BT.nil)) (BT.node (o271 P) (BT.node (o401 P) BT.nil BT.nil) (BT.node (o531 P) BT.nil BT.nil)))) (BT.node (o91 P) (BT.node (o125 P) (BT.node (o189 P) (BT.node (o319 P) BT.nil BT.nil) (BT.node (o449 P) BT.nil BT.nil)) (BT.node (o253 P) (BT.node (o385 P) BT.nil BT.nil) (BT.node (o515 P) BT.nil BT.nil))) (BT.node (o157 P) (BT.node (o221 P) (BT.node (o353 P) BT.nil BT.nil) (BT.node (o483 P) BT.nil BT.nil)) (BT.node (o287 P) (BT.node (o417 P) BT.nil BT.nil) BT.nil))))) (BT.node (o470 P) (BT.node (o55 P) (BT.node (o71 P) (BT.node (o105 P) (BT.node (o169 P) (BT.node (o299 P) BT.nil BT.nil) (BT.node (o429 P) BT.nil BT.nil)) (BT.node (o233 P) (BT.node (o365 P) BT.nil BT.nil) (BT.node (o495 P) BT.nil BT.nil))) (BT.node (o137 P) (BT.node (o201 P) (BT.node (o333 P) BT.nil BT.nil) (BT.node (o461 P) BT.nil BT.nil)) (BT.node (o267 P) (BT.node (o397 P) BT.nil BT.nil) (BT.node (o527 P) BT.nil BT.nil)))) (BT.node (o87 P) (BT.node (o121 P) (BT.node (o185 P) (BT.node (o315 P) BT.nil BT.nil) (BT.node (o445 P) BT.nil BT.nil)) (BT.node (o249 P) (BT.node (o381 P) BT.nil BT.nil) (BT.node (o511 P) BT.nil BT.nil))) (BT.node (o153 P) (BT.node (o217 P) (BT.node (o349 P) BT.nil BT.nil) (BT.node (o479 P) BT.nil BT.nil)) (BT.node (o283 P) (BT.node (o413 P) BT.nil BT.nil) (BT.node (o543 P) BT.nil BT.nil))))) (BT.node (o63 P) (BT.node (o79 P) (BT.node (o113 P) (BT.node (o177 P) (BT.node (o307 P) BT.nil BT.nil) (BT.node (o437 P) BT.nil BT.nil)) (BT.node (o241 P) (BT.node (o373 P) BT.nil BT.nil) (BT.node (o503 P) BT.nil BT.nil))) (BT.node (o145 P) (BT.node (o209 P) (BT.node (o341 P) BT.nil BT.nil) (BT.node (o471 P) BT.nil BT.nil)) (BT.node (o275 P) (BT.node (o405 P) BT.nil BT.nil) (BT.node (o535 P) BT.nil BT.nil)))) (BT.node (o95 P) (BT.node (o129 P) (BT.node (o193 P) (BT.node (o323 P) BT.nil BT.nil) (BT.node (o453 P) BT.nil BT.nil)) (BT.node (o257 P) (BT.node (o389 P) BT.nil BT.nil) (BT.node (o519 P) BT.nil BT.nil))) (BT.node (o161 P) (BT.node (o225 P) (BT.node (o357 P) BT.nil BT.nil) (BT.node (o487 P) BT.nil BT.nil)) (BT.node (o291 P) (BT.node (o421 P) BT.nil BT.nil) BT.nil)))))) (BT.node (boot_o_6 P) (BT.node (boot_o_10 P) (BT.node (o53 P) (BT.node (o69 P) (BT.node (o103 P) (BT.node (o167 P) (BT.node (o297 P) BT.nil BT.nil) (BT.node (o427 P) BT.nil BT.nil)) (BT.node (o231 P) (BT.node (o363 P) BT.nil BT.nil) (BT.node (o493 P) BT.nil BT.nil))) (BT.node (o135 P) (BT.node (o199 P) (BT.node (o329 P) BT.nil BT.nil) (BT.node (o459 P) BT.nil BT.nil)) (BT.node (o263 P) (BT.node (o395 P) BT.nil BT.nil) (BT.node (o525 P) BT.nil BT.nil)))) (BT.node (o85 P) (BT.node (o119 P) (BT.node (o183 P) (BT.node (o313 P) BT.nil BT.nil) (BT.node (o443 P) BT.nil BT.nil)) (BT.node (o247 P) (BT.node (o379 P) BT.nil BT.nil) (BT.node (o509 P) BT.nil BT.nil))) (BT.node (o151 P) (BT.node (o215 P) (BT.node (o347 P) BT.nil BT.nil) (BT.node (o477 P) BT.nil BT.nil)) (BT.node (o281 P) (BT.node (o411 P) BT.nil BT.nil) (BT.node (o541 P) BT.nil BT.nil))))) (BT.node (o61 P) (BT.node (o77 P) (BT.node (o111 P) (BT.node (o175 P) (BT.node (o305 P) BT.nil BT.nil) (BT.node (o435 P) BT.nil BT.nil)) (BT.node (o239 P) (BT.node (o371 P) BT.nil BT.nil) (BT.node (o501 P) BT.nil BT.nil))) (BT.node (o143 P) (BT.node (o207 P) (BT.node (o339 P) BT.nil BT.nil) (BT.node (o467 P) BT.nil BT.nil)) (BT.node (o273 P) (BT.node (o403 P) BT.nil BT.nil) (BT.node (o533 P) BT.nil BT.nil)))) (BT.node (o93 P) (BT.node (o127 P) (BT.node (o191 P) (BT.node (o321 P) BT.nil BT.nil) (BT.node (o451 P) BT.nil BT.nil)) (BT.node (o255 P) (BT.node (o387 P) BT.nil BT.nil) (BT.node (o517 P) BT.nil BT.nil))) (BT.node (o159 P) (BT.node (o223 P) (BT.node (o355 P) BT.nil BT.nil) (BT.node (o485 P) BT.nil BT.nil)) (BT.node (o289 P) (BT.node (o419 P) BT.nil BT.nil) BT.nil))))) (BT.node (o46 P) (BT.node (o57 P) (BT.node (o73 P) (BT.node (o107 P) (BT.node (o171 P) (BT.node (o301 P) BT.nil BT.nil) (BT.node (o431 P) BT.nil BT.nil)) (BT.node (o235 P) (BT.node (o367 P) BT.nil BT.nil) (BT.node (o497 P) BT.nil BT.nil))) (BT.node (o139 P) (BT.node (o203 P) (BT.node (o335 P) BT.nil BT.nil) (BT.node (o463 P) BT.nil BT.nil)) (BT.node (o269 P) (BT.node (o399 P) BT.nil BT.nil) (BT.node (o529 P) BT.nil BT.nil)))) (BT.node (o89 P) (BT.node (o123 P) (BT.node (o187 P) (BT.node (o317 P) BT.nil BT.nil) (BT.node (o447 P) BT.nil BT.nil)) (BT.node (o251 P) (BT.node (o383 P) BT.nil BT.nil) (BT.node (o513 P) BT.nil BT.nil))) (BT.node (o155 P) (BT.node (o219 P) (BT.node (o351 P) BT.nil BT.nil) (BT.node (o481 P) BT.nil BT.nil)) (BT.node (o285 P) (BT.node (o415 P) BT.nil BT.nil) BT.nil)))) (BT.node (o65 P) (BT.node (o81 P) (BT.node (o115 P) (BT.node (o179 P) (BT.node (o309 P) BT.nil BT.nil) (BT.node (o439 P) BT.nil BT.nil)) (BT.node (o243 P) (BT.node (o375 P) BT.nil BT.nil) (BT.node (o505 P) BT.nil BT.nil))) (BT.node (o147 P) (BT.node (o211 P) (BT.node (o343 P) BT.nil BT.nil) (BT.node (o473 P) BT.nil BT.nil)) (BT.node (o277 P) (BT.node (o407 P) BT.nil BT.nil) (BT.node (o537 P) BT.nil BT.nil)))) (BT.node (o99 P) (BT.node (o131 P) (BT.node (o195 P) (BT.node (o325 P) BT.nil BT.nil) (BT.node (o455 P) BT.nil BT.nil)) (BT.node (o259 P) (BT.node (o391 P) BT.nil BT.nil) (BT.node (o521 P) BT.nil BT.nil))) (BT.node (o163 P) (BT.node (o227 P) (BT.node (o359 P) BT.nil BT.nil) (BT.node (o489 P) BT.nil BT.nil)) (BT.node (o293 P) (BT.node (o423 P) BT.nil BT.nil) BT.nil)))))))
noncomputable def heap46 : Params → Heap := fun P => { objs := { toList := [boot_o_0 P, boot_o_1 P, boot_o_2 P, boot_o_3 P, boot_o_4 P, boot_o_5 P, boot_o_6 P, boot_o_7 P, boot_o_8 P, boot_o_9 P, boot_o_10 P, o43 P, o44 P, o45 P, o46 P] } }
noncomputable def heap544 : Params → Heap := fun P => { objs := { toList := [boot_o_0 P, boot_o_1 P, o47 P, o469 P, boot_o_4 P, boot_o_5 P, boot_o_6 P, boot_o_7 P, boot_o_8 P, boot_o_9 P, boot_o_10 P, o43 P, o470 P, o45 P, o46 P, o50 P, o51 P, o52 P, o53 P, o54 P, o55 P, o56 P, o57 P, o58 P, o59 P, o60 P, o61 P, o62 P, o63 P, o64 P, o65 P, o66 P, o67 P, o68 P, o69 P, o70 P, o71 P, o72 P, o73 P, o74 P, o75 P, o76 P, o77 P, o78 P, o79 P, o80 P, o81 P, o82 P, o83 P, o84 P, o85 P, o86 P, o87 P, o88 P, o89 P, o90 P, o91 P, o92 P, o93 P, o94 P, o95 P, o96 P, o99 P, o100 P, o101 P, o102 P, o103 P, o104 P, o105 P, o106 P, o107 P, o108 P, o109 P, o110 P, o111 P, o112 P, o113 P, o114 P, o115 P, o116 P, o117 P, o118 P, o119 P, o120 P, o121 P, o122 P, o123 P, o124 P, o125 P, o126 P, o127 P, o128 P, o129 P, o130 P, o131 P, o132 P, o133 P, o134 P, o135 P, o136 P, o137 P, o138 P, o139 P, o140 P, o141 P, o142 P, o143 P, o144 P, o145 P, o146 P, o147 P, o148 P, o149 P, o150 P, o151 P, o152 P, o153 P, o154 P, o155 P, o156 P, o157 P, o158 P, o159 P, o160 P, o161 P, o162 P, o163 P, o164 P, o165 P, o166 P, o167 P, o168 P, o169 P, o170 P, o171 P, o172 P, o173 P, o174 P, o175 P, o176 P, o177 P, o178 P, o179 P, o180 P, o181 P, o182 P, o183 P, o184 P, o185 P, o186 P, o187 P, o188 P, o189 P, o190 P, o191 P, o192 P, o193 P, o194 P, o195 P, o196 P, o197 P, o198 P, o199 P, o200 P, o201 P, o202 P, o203 P, o204 P, o205 P, o206 P, o207 P, o208 P, o209 P, o210 P, o211 P, o212 P, o213 P, o214 P, o215 P, o216 P, o217 P, o218 P, o219 P, o220 P, o221 P, o222 P, o223 P, o224 P, o225 P, o226 P, o227 P, o228 P, o229 P, o230 P, o231 P, o232 P, o233 P, o234 P, o235 P, o236 P, o237 P, o238 P, o239 P, o240 P, o241 P, o242 P, o243 P, o244 P, o245 P, o246 P, o247 P, o248 P, o249 P, o250 P, o251 P, o252 P, o253 P, o254 P, o255 P, o256 P, o257 P, o258 P, o259 P, o260 P, o261 P, o262 P, o263 P, o264 P, o267 P, o268 P, o269 P, o270 P, o271 P, o272 P, o273 P, o274 P, o275 P, o276 P, o277 P, o278 P, o279 P, o280 P, o281 P, o282 P, o283 P, o284 P, o285 P, o286 P, o287 P, o288 P, o289 P, o290 P, o291 P, o292 P, o293 P, o294 P, o295 P, o296 P, o297 P, o298 P, o299 P, o300 P, o301 P, o302 P, o303 P, o304 P, o305 P, o306 P, o307 P, o308 P, o309 P, o310 P, o311 P, o312 P, o313 P, o314 P, o315 P, o316 P, o317 P, o318 P, o319 P, o320 P, o321 P, o322 P, o323 P, o324 P, o325 P, o326 P, o327 P, o328 P, o329 P, o330 P, o333 P, o334 P, o335 P, o336 P, o337 P, o338 P, o339 P, o340 P, o341 P, o342 P, o343 P, o344 P, o345 P, o346 P, o347 P, o348 P, o349 P, o350 P, o351 P, o352 P, o353 P, o354 P, o355 P, o356 P, o357 P, o358 P, o359 P, o360 P, o361 P, o362 P, o363 P, o364 P, o365 P, o366 P, o367 P, o368 P, o369 P, o370 P, o371 P, o372 P, o373 P, o374 P, o375 P, o376 P, o377 P, o378 P, o379 P, o380 P, o381 P, o382 P, o383 P, o384 P, o385 P, o386 P, o387 P, o388 P, o389 P, o390 P, o391 P, o392 P, o393 P, o394 P, o395 P, o396 P, o397 P, o398 P, o399 P, o400 P, o401 P, o402 P, o403 P, o404 P, o405 P, o406 P, o407 P, o408 P, o409 P, o410 P, o411 P, o412 P, o413 P, o414 P, o415 P, o416 P, o417 P, o418 P, o419 P, o420 P, o421 P, o422 P, o423 P, o424 P, o425 P, o426 P, o427 P, o428 P, o429 P, o430 P, o431 P, o432 P, o433 P, o434 P, o435 P, o436 P, o437 P, o438 P, o439 P, o440 P, o441 P, o442 P, o443 P, o444 P, o445 P, o446 P, o447 P, o448 P, o449 P, o450 P, o451 P, o452 P, o453 P, o454 P, o455 P, o456 P, o457 P, o458 P, o459 P, o460 P, o461 P, o462 P, o463 P, o464 P, o465 P, o466 P, o467 P, o468 P, o471 P, o472 P, o473 P, o474 P, o475 P, o476 P, o477 P, o478 P, o479 P, o480 P, o481 P, o482 P, o483 P, o484 P, o485 P, o486 P, o487 P, o488 P, o489 P, o490 P, o491 P, o492 P, o493 P, o494 P, o495 P, o496 P, o497 P, o498 P, o499 P, o500 P, o501 P, o502 P, o503 P, o504 P, o505 P, o506 P, o507 P, o508 P, o509 P, o510 P, o511 P, o512 P, o513 P, o514 P, o515 P, o516 P, o517 P, o518 P, o519 P, o520 P, o521 P, o522 P, o523 P, o524 P, o525 P, o526 P, o527 P, o528 P, o529 P, o530 P, o531 P, o532 P, o533 P, o534 P, o535 P, o536 P, o537 P, o538 P, o539 P, o540 P, o541 P, o542 P, o543 P, o544 P] } }
noncomputable def hd.heap_39 : Params → Frag := fun P => (nat_lit 2, o47 P) :: (nat_lit 3, o469 P) :: (nat_lit 15, o50 P) :: (nat_lit 17, o52 P) :: (nat_lit 18, o53 P) :: (nat_lit 20, o55 P) :: (nat_lit 21, o56 P) :: (nat_lit 22, o57 P) :: (nat_lit 29, o64 P) :: (nat_lit 30, o65 P) :: (nat_lit 32, o67 P) :: (nat_lit 33, o68 P) :: (nat_lit 35, o70 P) :: (nat_lit 36, o71 P) :: (nat_lit 37, o72 P) :: (nat_lit 39, o74 P) :: (nat_lit 40, o75 P) :: (nat_lit 42, o77 P) :: (nat_lit 43, o78 P) :: (nat_lit 44, o79 P) :: (nat_lit 45, o80 P) :: (nat_lit 46, o81 P) :: (nat_lit 47, o82 P) :: (nat_lit 50, o85 P) :: (nat_lit 57, o92 P) :: (nat_lit 58, o93 P) :: (nat_lit 59, o94 P) :: (nat_lit 69, o106 P) :: (nat_lit 71, o108 P) :: (nat_lit 72, o109 P) :: (nat_lit 74, o111 P) :: (nat_lit 75, o112 P) :: (nat_lit 76, o113 P) :: (nat_lit 78, o115 P) :: (nat_lit 79, o116 P) :: (nat_lit 81, o118 P) :: (nat_lit 82, o119 P) :: (nat_lit 83, o120 P) :: (nat_lit 85, o122 P) :: (nat_lit 86, o123 P) :: (nat_lit 88, o125 P) :: (nat_lit 89, o126 P) :: (nat_lit 90, o127 P) :: (nat_lit 92, o129 P) :: (nat_lit 93, o130 P) :: (nat_lit 95, o132 P) :: (nat_lit 96, o133 P) :: (nat_lit 97, o134 P) :: (nat_lit 99, o136 P) :: (nat_lit 100, o137 P) :: (nat_lit 102, o139 P) :: (nat_lit 103, o140 P) :: (nat_lit 104, o141 P) :: (nat_lit 106, o143 P) :: (nat_lit 107, o144 P) :: (nat_lit 109, o146 P) :: (nat_lit 110, o147 P) :: (nat_lit 111, o148 P) :: (nat_lit 113, o150 P) :: (nat_lit 114, o151 P) :: (nat_lit 116, o153 P) :: (nat_lit 117, o154 P) :: (nat_lit 118, o155 P) :: (nat_lit 120, o157 P) :: (nat_lit 121, o158 P) :: (nat_lit 123, o160 P) :: (nat_lit 124, o161 P) :: (nat_lit 125, o162 P) :: (nat_lit 127, o164 P) :: (nat_lit 128, o165 P) :: (nat_lit 130, o167 P) :: (nat_lit 131, o168 P) :: (nat_lit 132, o169 P) :: (nat_lit 134, o171 P) :: (nat_lit 135, o172 P) :: (nat_lit 137, o174 P) :: (nat_lit 138, o175 P) :: (nat_lit 139, o176 P) :: (nat_lit 141, o178 P) :: (nat_lit 142, o179 P) :: (nat_lit 144, o181 P) :: (nat_lit 145, o182 P) :: (nat_lit 146, o183 P) :: (nat_lit 148, o185 P) :: (nat_lit 149, o186 P) :: (nat_lit 151, o188 P) :: (nat_lit 152, o189 P) :: (nat_lit 153, o190 P) :: (nat_lit 154, o191 P) :: (nat_lit 155, o192 P) :: (nat_lit 156, o193 P) :: (nat_lit 157, o194 P) :: (nat_lit 160, o197 P) :: (nat_lit 162, o199 P) :: (nat_lit 163, o200 P) :: (nat_lit 165, o202 P) :: (nat_lit 166, o203 P) :: (nat_lit 167, o204 P) :: (nat_lit 169, o206 P) :: (nat_lit 170, o207 P) :: (nat_lit 172, o209 P) :: (nat_lit 173, o210 P) :: (nat_lit 174, o211 P) :: (nat_lit 176, o213 P) :: (nat_lit 177, o214 P) :: (nat_lit 179, o216 P) :: (nat_lit 180, o217 P) :: (nat_lit 181, o218 P) :: (nat_lit 183, o220 P) :: (nat_lit 184, o221 P) :: (nat_lit 186, o223 P) :: (nat_lit 187, o224 P) :: (nat_lit 188, o225 P) :: (nat_lit 190, o227 P) :: (nat_lit 191, o228 P) :: (nat_lit 193, o230 P) :: (nat_lit 194, o231 P) :: (nat_lit 195, o232 P) :: (nat_lit 198, o235 P) :: (nat_lit 199, o236 P) :: (nat_lit 200, o237 P) :: (nat_lit 202, o239 P) :: (nat_lit 203, o240 P) :: (nat_lit 205, o242 P) :: (nat_lit 206, o243 P) :: (nat_lit 207, o244 P) :: (nat_lit 209, o246 P) :: (nat_lit 210, o247 P) :: (nat_lit 212, o249 P) :: (nat_lit 213, o250 P) :: (nat_lit 214, o251 P) :: (nat_lit 216, o253 P) :: (nat_lit 217, o254 P) :: (nat_lit 219, o256 P) :: (nat_lit 220, o257 P) :: (nat_lit 221, o258 P) :: (nat_lit 223, o260 P) :: (nat_lit 224, o261 P) :: (nat_lit 226, o263 P) :: (nat_lit 227, o264 P) :: (nat_lit 235, o274 P) :: (nat_lit 237, o276 P) :: (nat_lit 238, o277 P) :: (nat_lit 240, o279 P) :: (nat_lit 241, o280 P) :: (nat_lit 242, o281 P) :: (nat_lit 243, o282 P) :: (nat_lit 244, o283 P) :: (nat_lit 245, o284 P) :: (nat_lit 246, o285 P) :: (nat_lit 256, o295 P) :: (nat_lit 257, o296 P) :: (nat_lit 259, o298 P) :: (nat_lit 260, o299 P) :: (nat_lit 262, o301 P) :: (nat_lit 263, o302 P) :: (nat_lit 264, o303 P) :: (nat_lit 265, o304 P) :: (nat_lit 266, o305 P) :: (nat_lit 267, o306 P) :: (nat_lit 268, o307 P) :: (nat_lit 278, o317 P) :: (nat_lit 280, o319 P) :: (nat_lit 281, o320 P) :: (nat_lit 283, o322 P) :: (nat_lit 284, o323 P) :: (nat_lit 285, o324 P) :: (nat_lit 286, o325 P) :: (nat_lit 287, o326 P) :: (nat_lit 288, o327 P) :: (nat_lit 289, o328 P) :: (nat_lit 299, o340 P) :: (nat_lit 301, o342 P) :: (nat_lit 302, o343 P) :: (nat_lit 304, o345 P) :: (nat_lit 305, o346 P) :: (nat_lit 306, o347 P) :: (nat_lit 308, o349 P) :: (nat_lit 309, o350 P) :: (nat_lit 311, o352 P) :: (nat_lit 312, o353 P) :: (nat_lit 313, o354 P) :: (nat_lit 314, o355 P) :: (nat_lit 315, o356 P) :: (nat_lit 316, o357 P) :: (nat_lit 317, o358 P) :: (nat_lit 320, o361 P) :: (nat_lit 322, o363 P) :: (nat_lit 323, o364 P) :: (nat_lit 325, o366 P) :: (nat_lit 326, o367 P) :: (nat_lit 327, o368 P) :: (nat_lit 329, o370 P) :: (nat_lit 330, o371 P) :: (nat_lit 332, o373 P) :: (nat_lit 333, o374 P) :: (nat_lit 334, o375 P) :: (nat_lit 336, o377 P) :: (nat_lit 337, o378 P) :: (nat_lit 339, o380 P) :: (nat_lit 340, o381 P) :: (nat_lit 341, o382 P) :: (nat_lit 344, o385 P) :: (nat_lit 345, o386 P) :: (nat_lit 353, o394 P) :: (nat_lit 354, o395 P) :: (nat_lit 355, o396 P) :: (nat_lit 357, o398 P) :: (nat_lit 358, o399 P) :: (nat_lit 360, o401 P) :: (nat_lit 361, o402 P) :: (nat_lit 362, o403 P) :: (nat_lit 364, o405 P) :: (nat_lit 365, o406 P) :: (nat_lit 367, o408 P) :: (nat_lit 368, o409 P) :: (nat_lit 369, o410 P) :: (nat_lit 370, o411 P) :: (nat_lit 371, o412 P) :: (nat_lit 372, o413 P) :: (nat_lit 373, o414 P) :: (nat_lit 376, o417 P) :: (nat_lit 378, o419 P) :: (nat_lit 379, o420 P) :: (nat_lit 381, o422 P) :: (nat_lit 382, o423 P) :: (nat_lit 383, o424 P) :: (nat_lit 385, o426 P) :: (nat_lit 386, o427 P) :: (nat_lit 388, o429 P) :: (nat_lit 389, o430 P) :: (nat_lit 390, o431 P) :: (nat_lit 392, o433 P) :: (nat_lit 393, o434 P) :: (nat_lit 395, o436 P) :: (nat_lit 396, o437 P) :: (nat_lit 397, o438 P) :: (nat_lit 400, o441 P) :: (nat_lit 401, o442 P) :: (nat_lit 402, o443 P) :: (nat_lit 404, o445 P) :: (nat_lit 405, o446 P) :: (nat_lit 407, o448 P) :: (nat_lit 408, o449 P) :: (nat_lit 409, o450 P) :: (nat_lit 412, o453 P) :: (nat_lit 413, o454 P) :: (nat_lit 414, o455 P) :: (nat_lit 416, o457 P) :: (nat_lit 417, o458 P) :: (nat_lit 419, o460 P) :: (nat_lit 420, o461 P) :: (nat_lit 421, o462 P) :: (nat_lit 423, o464 P) :: (nat_lit 424, o465 P) :: (nat_lit 426, o467 P) :: (nat_lit 427, o468 P) :: (nat_lit 428, o471 P) :: (nat_lit 431, o474 P) :: (nat_lit 432, o475 P) :: (nat_lit 433, o476 P) :: (nat_lit 435, o478 P) :: (nat_lit 436, o479 P) :: (nat_lit 438, o481 P) :: (nat_lit 439, o482 P) :: (nat_lit 440, o483 P) :: (nat_lit 442, o485 P) :: (nat_lit 443, o486 P) :: (nat_lit 445, o488 P) :: (nat_lit 446, o489 P) :: (nat_lit 447, o490 P) :: (nat_lit 450, o493 P) :: (nat_lit 451, o494 P) :: (nat_lit 452, o495 P) :: (nat_lit 454, o497 P) :: (nat_lit 455, o498 P) :: (nat_lit 457, o500 P) :: (nat_lit 458, o501 P) :: (nat_lit 459, o502 P) :: (nat_lit 461, o504 P) :: (nat_lit 462, o505 P) :: (nat_lit 464, o507 P) :: (nat_lit 465, o508 P) :: (nat_lit 466, o509 P) :: (nat_lit 468, o511 P) :: (nat_lit 469, o512 P) :: (nat_lit 471, o514 P) :: (nat_lit 472, o515 P) :: (nat_lit 473, o516 P) :: (nat_lit 475, o518 P) :: (nat_lit 476, o519 P) :: (nat_lit 478, o521 P) :: (nat_lit 479, o522 P) :: (nat_lit 480, o523 P) :: (nat_lit 483, o526 P) :: (nat_lit 484, o527 P) :: (nat_lit 485, o528 P) :: (nat_lit 488, o531 P) :: (nat_lit 489, o532 P) :: (nat_lit 490, o533 P) :: (nat_lit 492, o535 P) :: (nat_lit 493, o536 P) :: (nat_lit 495, o538 P) :: (nat_lit 496, o539 P) :: (nat_lit 497, o540 P) :: (nat_lit 500, o543 P) :: (nat_lit 501, o544 P) :: []
noncomputable def hd.view_39 : Program := { Pz with main := { Pz.main with body := [0, 2, 3, 5, 6, 7, 8, 9, 10, 11, 12, 13, 14, 15, 17, 18, 19, 20, 21, 22, 23, 24, 25, 27, 28, 29, 30, 31, 32, 33, 34, 35, 36, 37, 38, 40, 41, 42, 43, 44, 45, 46, 47, 48].map sAt } }
noncomputable def env41 : Env := { scope := Pz.main.scope, locals := mainNs, globals := mainNs, cells := [], code := .ref 13, frame := some 14 }
noncomputable abbrev p0 : Pos := { line := 0, col := 0, endLine := 0, endCol := 0 }
noncomputable abbrev pE : Pos := { line := 303, col := 0, endLine := 325, endCol := 93 }
noncomputable abbrev bI : List Stmt := behindTheImports Pz
noncomputable abbrev cE : Code := .body bI env41
theorem h_pre (w : World) : (fun os => topGo treeTable Pz w 11 (some (.ref 6)) 12 { heap := boot_heap w.params, drawn := boot_drawn, toks := boot_toks, os := os } (topStub Pz)) =
    fun os => some ({ heap := heap46 w.params, toks := 187, os := os }, { cur := denote treeTable cE, code := cE, pos := p0, stack := [topFrame p0] }) := by kernel_rfl
theorem h_block (w : World) : (fun os => segRun treeTable Pz w 11 (some (.ref 6)) 1 1 { heap := heap46 w.params, toks := 187, os := os } (blockOf bI env41 cE p0 [topFrame p0])) =
    fun os => some (Flow.next, SharedT.abs { tree := tree46 w.params, n := 15, life := {}, gens := ⟨[]⟩, drawn := {}, toks := 187, os := os }, cE, p0) := by kernel_rfl
noncomputable abbrev b1 : List Stmt := (bI.drop 0).take 5
theorem h_run1 (w : World) : (fun os => segRunT treeTable Pz w 11 (some (.ref 6)) 1 529 { tree := tree46 w.params, n := 15, life := {}, gens := ⟨[]⟩, drawn := {}, toks := 187, os := os } (piecesOf b1 env41 cE { line := 0, col := 0, endLine := 0, endCol := 0 } [topFrame p0])) =
    fun os => some (Flow.next, { tree := tree96 w.params, n := 62, life := {}, gens := ⟨[]⟩, drawn := {}, toks := 254, os := os }, cE, { line := 16, col := 0, endLine := 16, endCol := 8 }) := by
  rw [PySem.W.Fast.te10110043849684766642, PySem.W.Fast.te14364793385576792824]
  kernel_rfl
noncomputable abbrev b2 : List Stmt := (bI.drop 5).take 12
theorem h_run2 (w : World) : (fun os => segRunT treeTable Pz w 11 (some (.ref 6)) 1 889 { tree := tree96 w.params, n := 62, life := {}, gens := ⟨[]⟩, drawn := {}, toks := 254, os := os } (piecesOf b2 env41 cE { line := 16, col := 0, endLine := 16, endCol := 8 } [topFrame p0])) =
    fun os => some (Flow.next, { tree := tree264 w.params, n := 228, life := {}, gens := ⟨[]⟩, drawn := {}, toks := 460, os := os }, cE, { line := 115, col := 0, endLine := 115, endCol := 8 }) := by
  rw [PySem.W.Fast.te10110043849684766642, PySem.W.Fast.te14364793385576792824]
  kernel_rfl
noncomputable abbrev b3 : List Stmt := (bI.drop 17).take 3
theorem h_run3 (w : World) : (fun os => segRunT treeTable Pz w 11 (some (.ref 6)) 1 672 { tree := tree264 w.params, n := 228, life := {}, gens := ⟨[]⟩, drawn := {}, toks := 460, os := os } (piecesOf b3 env41 cE { line := 115, col := 0, endLine := 115, endCol := 8 } [topFrame p0])) =
    fun os => some (Flow.next, { tree := tree330 w.params, n := 292, life := {}, gens := ⟨[]⟩, drawn := {}, toks := 551, os := os }, cE, { line := 125, col := 0, endLine := 129, endCol := 28 }) := by
  rw [PySem.W.Fast.te10110043849684766642, PySem.W.Fast.te14364793385576792824]
  kernel_rfl
noncomputable abbrev b4 : List Stmt := (bI.drop 20).take 16
theorem h_run4 (w : World) : (fun os => segRunT treeTable Pz w 11 (some (.ref 6)) 1 891 { tree := tree330 w.params, n := 292, life := {}, gens := ⟨[]⟩, drawn := {}, toks := 551, os := os } (piecesOf b4 env41 cE { line := 125, col := 0, endLine := 129, endCol := 28 } [topFrame p0])) =
    fun os => some (Flow.next, { tree := tree468 w.params, n := 428, life := {}, gens := ⟨[]⟩, drawn := {}, toks := 730, os := os }, cE, { line := 227, col := 0, endLine := 232, endCol := 57 }) := by
  rw [PySem.W.Fast.te10110043849684766642, PySem.W.Fast.te14364793385576792824]
  kernel_rfl
noncomputable abbrev b5 : List Stmt := (bI.drop 36).take 13
theorem h_run5 (w : World) : (fun os => segRunT treeTable Pz w 11 (some (.ref 6)) 1 356 { tree := tree468 w.params, n := 428, life := {}, gens := ⟨[]⟩, drawn := {}, toks := 730, os := os } (piecesOf b5 env41 cE { line := 227, col := 0, endLine := 232, endCol := 57 } [topFrame p0])) =
    fun os => some (Flow.next, { tree := tree544 w.params, n := 502, life := {}, gens := ⟨[]⟩, drawn := {}, toks := 824, os := os }, cE, { line := 303, col := 0, endLine := 325, endCol := 93 }) := by
  rw [PySem.W.Fast.te10110043849684766642, PySem.W.Fast.te14364793385576792824]
  kernel_rfl
theorem h_cut : bI = (b1 ++ (b2 ++ (b3 ++ (b4 ++ (b5 ++ []))))) := by kernel_rfl
theorem h_fin (w : World) : (fun os => topRun treeTable Pz w 11 (some (.ref 6)) 2 (SharedT.abs { tree := tree544 w.params, n := 502, life := {}, gens := ⟨[]⟩, drawn := {}, toks := 824, os := os }) { cur := doneF .next, code := cE, pos := { line := 303, col := 0, endLine := 325, endCol := 93 }, stack := [topFrame p0] }) =
    fun os => some { heap := heap544 w.params, toks := 824, os := os } := by kernel_rfl
theorem h_rest (w : World) (os : OsState) : topRun treeTable Pz w 11 (some (.ref 6)) (Nat.add 529 (Nat.add 889 (Nat.add 672 (Nat.add 891 (Nat.add 356 2))))) (SharedT.abs { tree := tree46 w.params, n := 15, life := {}, gens := ⟨[]⟩, drawn := {}, toks := 187, os := os }) (restOf bI env41 cE p0 [topFrame p0]) = some { heap := heap544 w.params, toks := 824, os := os } := by
  rw [h_cut]
  exact (piece_app (segRun_of (congrFun (h_run1 w) os)) (piece_app (segRun_of (congrFun (h_run2 w) os)) (piece_app (segRun_of (congrFun (h_run3 w) os)) (piece_app (segRun_of (congrFun (h_run4 w) os)) (piece_app (segRun_of (congrFun (h_run5 w) os)) (congrFun (h_fin w) os))))))
theorem h_all (w : World) (os : OsState) : topRun treeTable Pz w 11 (some (.ref 6)) (Nat.add 12 (Nat.add 1 (Nat.add 529 (Nat.add 889 (Nat.add 672 (Nat.add 891 (Nat.add 356 2))))))) { heap := boot_heap w.params, drawn := boot_drawn, toks := boot_toks, os := os } (topStub Pz) = some { heap := heap544 w.params, toks := 824, os := os } :=
  go_top (congrFun (h_pre w) os) (piece_block (congrFun (h_block w) os) (h_rest w os))
noncomputable abbrev hkk : Hook := kHook hd.heap_39 [2, 3, 15, 17, 18, 20, 21, 22, 29, 30, 32, 33, 35, 36, 37, 39, 40, 42, 43, 44, 45, 46, 47, 50, 57, 58, 59, 69, 71, 72, 74, 75, 76, 78, 79, 81, 82, 83, 85, 86, 88, 89, 90, 92, 93, 95, 96, 97, 99, 100, 102, 103, 104, 106, 107, 109, 110, 111, 113, 114, 116, 117, 118, 120, 121, 123, 124, 125, 127, 128, 130, 131, 132, 134, 135, 137, 138, 139, 141, 142, 144, 145, 146, 148, 149, 151, 152, 153, 154, 155, 156, 157, 160, 162, 163, 165, 166, 167, 169, 170, 172, 173, 174, 176, 177, 179, 180, 181, 183, 184, 186, 187, 188, 190, 191, 193, 194, 195, 198, 199, 200, 202, 203, 205, 206, 207, 209, 210, 212, 213, 214, 216, 217, 219, 220, 221, 223, 224, 226, 227, 235, 237, 238, 240, 241, 242, 243, 244, 245, 246, 256, 257, 259, 260, 262, 263, 264, 265, 266, 267, 268, 278, 280, 281, 283, 284, 285, 286, 287, 288, 289, 299, 301, 302, 304, 305, 306, 308, 309, 311, 312, 313, 314, 315, 316, 317, 320, 322, 323, 325, 326, 327, 329, 330, 332, 333, 334, 336, 337, 339, 340, 341, 344, 345, 353, 354, 355, 357, 358, 360, 361, 362, 364, 365, 367, 368, 369, 370, 371, 372, 373, 376, 378, 379, 381, 382, 383, 385, 386, 388, 389, 390, 392, 393, 395, 396, 397, 400, 401, 402, 404, 405, 407, 408, 409, 412, 413, 414, 416, 417, 419, 420, 421, 423, 424, 426, 427, 428, 431, 432, 433, 435, 436, 438, 439, 440, 442, 443, 445, 446, 447, 450, 451, 452, 454, 455, 457, 458, 459, 461, 462, 464, 465, 466, 468, 469, 471, 472, 473, 475, 476, 478, 479, 480, 483, 484, 485, 488, 489, 490, 492, 493, 495, 496, 497, 500, 501] (fun _ => by kernel_rfl)
theorem h_open : opening Pz = plainProg Pz.main.scope.names := by kernel_rfl
theorem h_fence (s : Shared) : fenceModules? Pz s = some s := by kernel_rfl
noncomputable abbrev hL : List Str := [Str.ofString "PaperError", Str.ofString "told_objects", Str.ofString "Space"]
noncomputable abbrev hM : List Str := importedModules Pz.main.body
noncomputable abbrev hX (s : Shared) : Bool := xlAt hd.view_39 [] s && recOk PySem.Challenge.rw_pb0478_01.row.records s
noncomputable abbrev hS (w : World) (os : OsState) : Shared := { heap := heap544 w.params, toks := 824, os := os }
theorem hk0 (w : World) : (fun os => staticsOk hM (boot_heap w.params) (heap544 w.params) && namesBound Pz (heap544 w.params) && gensDone (hS w os) && laidKept (boot_heap w.params) (heap544 w.params)) = fun _ => true := by kernel_rfl
theorem hk1 (w : World) : (fun os => seen ((recsOf hd.view_39).map (·.name)) (ownsOf hd.view_39) [] { hS w os with gens := #[] }) = fun _ => expectedOf hd.view_39 := by kernel_rfl
theorem hk2 (w : World) : (heap544 w.params).bltView = bltViewBooted := by kernel_rfl
theorem hk3 (w : World) : (heap544 w.params).keysOk (looseW hd.view_39 hL) ((recsOf hd.view_39).map (·.name)) ((litsOf hd.view_39).map (·.1)) ((clssOf hd.view_39 (looseW hd.view_39 hL)).map (·.name)) = true := by
  rw [PySem.W.Fast.te10880121769531294198, PySem.W.Fast.te3399658132070893891, PySem.W.Fast.te821141287760084731, PySem.W.Fast.te7409074990110511671, PySem.W.Fast.te13664370479719496447]
  kernel_rfl
theorem hk4 (w : World) : (heap544 w.params).accountedOkI hM = true := by kernel_rfl
theorem hk5 (w : World) : (heap544 w.params).isNs mainGlobals = true := by kernel_rfl
theorem hk5b (w : World) : (heap544 w.params).isNs builtinsNs = true := by kernel_rfl
theorem hk6 (w : World) : tablesOk hd.view_39 (heap544 w.params) = true := by kernel_rfl
theorem hk7 (w : World) : (fun os => hX (hS w os)) = fun _ => true := by kernel_rfl
theorem hk8 (w : World) : (fun os => tabsOk hd.view_39 (hS w os)) = fun _ => true := by kernel_rfl
theorem hk9 (w : World) : (fun os => pinSeenD hd.view_39 (drecsOf hd.view_39) (hS w os)) = fun _ => pinGoodD (drecsOf hd.view_39) := by kernel_rfl
theorem hk10 (w : World) : (fun os => plainSeenE hd.view_39 (looseW hd.view_39 hL) (hS w os)) = fun _ => plainGoodE hd.view_39 (looseW hd.view_39 hL) := by kernel_rfl
theorem hk11 (w : World) : (fun os => plainSeenD hd.view_39 hL (hS w os)) = fun _ => plainGoodD hd.view_39 hL := by kernel_rfl
theorem hk12 (w : World) : (fun os => wideSeen hd.view_39 (hS w os)) = fun _ => wideGood hd.view_39 := by kernel_rfl
theorem hk13 (w : World) : (fun os => clsSeenW hd.view_39 hL (hS w os)) = fun _ => clsGoodW hd.view_39 hL := by kernel_rfl
theorem hk14 (w : World) : (fun os => hkk.obs (hS w os)) = fun _ => hkk.val w := by kernel_rfl
theorem h_seen (w : World) (os : OsState) : openSeen hd.view_39 hL hM hX true (hS w os) = openGood hd.view_39 hL := by
  unfold openSeen openGood
  exact looks_pair (congrFun (hk1 w) os) (looks_pair (hk2 w) (looks_pair (look_both (look_both (look_both (look_both (look_both (look_both (hk3 w) (hk4 w)) (hk5 w)) (hk5b w)) (hk6 w)) (congrFun (hk7 w) os)) rfl)
    (looks_pair (congrFun (hk8 w) os) (looks_pair (congrFun (hk9 w) os) (looks_pair (congrFun (hk10 w) os) (looks_pair (congrFun (hk11 w) os) (looks_pair (congrFun (hk12 w) os) (congrFun (hk13 w) os))))))))
theorem h_looks (w : World) : (fun os => ((staticsOk hM (boot_heap w.params) (heap544 w.params) && namesBound Pz (heap544 w.params) && gensDone (hS w os) && laidKept (boot_heap w.params) (heap544 w.params)), openSeen hd.view_39 hL hM hX true (hS w os), hkk.obs (hS w os))) = fun _ => (true, openGood hd.view_39 hL, hkk.val w) :=
  funext fun os => looks_pair (congrFun (hk0 w) os) (looks_pair (h_seen w os) (congrFun (hk14 w) os))
theorem h_said : (PySem.Challenge.rw_pb0478_01).wellSaid = true := by
  unfold OpenLaw.wellSaid OpenRow.wellSaid OpenRow.partSaid looksOpen
  repeat' (with_reducible refine look_both ?_ ?_)
  all_goals decide +kernel
theorem h_left : LeftO Pz hd.view_39 [Str.ofString "PaperError", Str.ofString "told_objects", Str.ofString "Space"] (fun s => xlAt hd.view_39 [] s && recOk PySem.Challenge.rw_pb0478_01.row.records s) hkk.obs hkk.val 6804 true :=
  LeftO.of_pieces (boot_open h_open (by decide) h_fence) (fun w => by kernel_rfl) h_all (by decide) h_looks


noncomputable def dn : Int → Nat → Int × Nat
  | t, 0 => (t, 0)
  | t, n + 1 => if t % 10 = 0 then dn (t / 10) n else (t, n + 1)

theorem dn_le : ∀ (n : Nat) (t : Int), (dn t n).2 ≤ n
  | 0, t => Nat.le_refl _
  | n + 1, t => by
    unfold dn
    split
    · exact Nat.le_succ_of_le (dn_le n _)
    · exact Nat.le_refl _

theorem dn_mul : ∀ (n : Nat) (t : Int), (dn t n).1 * 10 ^ (n - (dn t n).2) = t
  | 0, t => by simp [dn]
  | n + 1, t => by
    unfold dn
    split
    · rename_i h
      have ih := dn_mul n (t / 10)
      have hl := dn_le n (t / 10)
      have e : n + 1 - (dn (t / 10) n).2 = (n - (dn (t / 10) n).2) + 1 := by omega
      rw [e, Int.pow_succ, ← Int.mul_assoc, ih]
      omega
    · simp

theorem dn_low : ∀ (n : Nat) (t : Int), (dn t n).2 = 0 ∨ (dn t n).1 % 10 ≠ 0
  | 0, t => .inl rfl
  | n + 1, t => by
    unfold dn
    split
    · exact dn_low n _
    · rename_i h; exact .inr h

theorem dn_up (n : Nat) : ∀ (k : Nat) (t : Int), dn (t * 10 ^ k) (n + k) = dn t n
  | 0, t => by simp
  | k + 1, t => by
    have e : t * 10 ^ (k + 1) = t * 10 ^ k * 10 := by rw [Int.pow_succ, Int.mul_assoc]
    rw [← Nat.add_assoc, e]
    conv => lhs; unfold dn
    rw [if_pos (by omega), Int.mul_ediv_cancel _ (by decide), dn_up n k t]

noncomputable def T6 (x : Int) : Int := (dn x 6).1
noncomputable def P6 (x : Int) : Int := ((dn x 6).2 : Int)

theorem P6_lo (x : Int) : 0 ≤ P6 x := Int.natCast_nonneg _
theorem P6_hi (x : Int) : P6 x ≤ 6 := by have := dn_le 6 x; unfold P6; omega
theorem T6_mul (x : Int) : T6 x * 10 ^ (6 - P6 x).toNat = x := by
  have h := dn_mul 6 x
  have e : (6 - P6 x).toNat = 6 - (dn x 6).2 := by unfold P6; have := dn_le 6 x; omega
  rw [e]; exact h
theorem T6_low (x : Int) : P6 x = 0 ∨ T6 x % 10 ≠ 0 := by
  rcases dn_low 6 x with h | h
  · left; unfold P6; omega
  · exact .inr h
/-- what Decimal's maker leaves of (t, p) -/
theorem of_tp {t p : Int} (h0 : 0 ≤ p) (h1 : p ≤ 6) : dn (t * 10 ^ (6 - p).toNat) 6 = dn t p.toNat := by
  have e : 6 = p.toNat + (6 - p).toNat := by omega
  conv => lhs; rw [e]
  exact dn_up _ _ _

theorem six (p : Int) (h0 : 0 ≤ p) (h1 : p ≤ 6) : p = 0 ∨ p = 1 ∨ p = 2 ∨ p = 3 ∨ p = 4 ∨ p = 5 ∨ p = 6 := by omega

/-- the pair in cases: t, p, x linear -/
theorem cases6 (x : Int) : (P6 x = 0 ∧ T6 x * 1000000 = x) ∨ (P6 x = 1 ∧ T6 x * 100000 = x ∧ T6 x % 10 ≠ 0) ∨ (P6 x = 2 ∧ T6 x * 10000 = x ∧ T6 x % 10 ≠ 0) ∨
    (P6 x = 3 ∧ T6 x * 1000 = x ∧ T6 x % 10 ≠ 0) ∨ (P6 x = 4 ∧ T6 x * 100 = x ∧ T6 x % 10 ≠ 0) ∨ (P6 x = 5 ∧ T6 x * 10 = x ∧ T6 x % 10 ≠ 0) ∨ (P6 x = 6 ∧ T6 x = x ∧ T6 x % 10 ≠ 0) := by
  have hm := T6_mul x
  have hl := T6_low x
  rcases six (P6 x) (P6_lo x) (P6_hi x) with h | h | h | h | h | h | h <;> rw [h] at hm hl <;> simp at hm hl <;> simp [h] <;> first | exact ⟨hm, hl⟩ | exact hm

theorem T6_abs (x : Int) : (T6 x).natAbs ≤ x.natAbs := by
  rcases cases6 x with h | h | h | h | h | h | h <;> omega
theorem P6_four {x : Int} (h : x % 100 = 0) : P6 x ≤ 4 := by
  rcases cases6 x with q | q | q | q | q | q | q <;> omega
theorem P6_two {x : Int} (h : x % 10000 = 0) : P6 x ≤ 2 := by
  rcases cases6 x with q | q | q | q | q | q | q <;> omega
theorem P6_zero {x : Int} (h : x % 1000000 = 0) : P6 x = 0 := by
  rcases cases6 x with q | q | q | q | q | q | q <;> omega
theorem T6_zero {x : Int} (h : x % 1000000 = 0) : T6 x = x / 1000000 := by
  rcases cases6 x with q | q | q | q | q | q | q <;> omega

theorem fmod10 (a : Int) : a.fmod 10 = a % 10 := by rw [Int.fmod_eq_emod_of_nonneg _ (by decide)]
theorem fdiv10 (a : Int) : a.fdiv 10 = a / 10 := by rw [Int.fdiv_eq_ediv_of_nonneg _ (by decide)]

/-- a turn of the maker's loop -/
theorem dn_turn {a b : Int} {r : Int × Nat} (h : dn a b.toNat = r) (h0 : 0 < b) (h1 : a.fmod 10 = 0) : dn (a.fdiv 10) (b - 1).toNat = r := by
  rw [fmod10] at h1; rw [fdiv10]
  have e : b.toNat = (b - 1).toNat + 1 := by omega
  rw [e] at h
  unfold dn at h
  rwa [if_pos h1] at h
theorem dn_stop {a b : Int} {r : Int × Nat} (h : dn a b.toNat = r) (hb : 0 ≤ b) (h1 : a.fmod 10 ≠ 0 ∨ ¬ 0 < b) : r.1 = a ∧ (r.2 : Int) = b := by
  subst h
  by_cases h0 : 0 < b
  · have h2 := h1.resolve_right (fun q => q h0)
    rw [fmod10] at h2
    have e : b.toNat = (b - 1).toNat + 1 := by omega
    rw [e]; unfold dn; rw [if_neg h2]
    exact ⟨rfl, by omega⟩
  · have e : b = 0 := by omega
    subst e
    exact ⟨rfl, rfl⟩
theorem made_tp {t p a b : Int} (h0 : 0 ≤ p) (h1 : p ≤ 6) (h : dn a b.toNat = dn t p.toNat) (hb : 0 ≤ b) (hs : a.fmod 10 ≠ 0 ∨ ¬ 0 < b) : T6 (t * 10 ^ (6 - p).toNat) = a ∧ P6 (t * 10 ^ (6 - p).toNat) = b := by
  have e := of_tp (t := t) h0 h1
  unfold T6 P6
  rw [e]
  exact dn_stop h hb hs

noncomputable def mx (x y : Int) : Int := if P6 y > P6 x then P6 y else P6 x
theorem pow_split {a b : Int} (h0 : 0 ≤ a) (h1 : a ≤ b) (h2 : b ≤ 6) : (10 : Int) ^ (b - a).toNat * 10 ^ (6 - b).toNat = 10 ^ (6 - a).toNat := by
  rw [← Int.pow_add]
  congr 1
  omega
theorem scaled {x M : Int} (h1 : P6 x ≤ M) (h2 : M ≤ 6) : T6 x * 10 ^ (M - P6 x).toNat * 10 ^ (6 - M).toNat = x := by
  rw [Int.mul_assoc, pow_split (P6_lo x) h1 h2, T6_mul]
theorem mx_lo (x y : Int) : P6 x ≤ (if P6 y > P6 x then P6 y else P6 x) ∧ P6 y ≤ (if P6 y > P6 x then P6 y else P6 x) ∧ (if P6 y > P6 x then P6 y else P6 x) ≤ 6 := by
  have := P6_hi x; have := P6_hi y
  split <;> omega
theorem minus_eq (x y : Int) : (T6 x * 10 ^ ((if P6 y > P6 x then P6 y else P6 x) - P6 x).toNat - T6 y * 10 ^ ((if P6 y > P6 x then P6 y else P6 x) - P6 y).toNat) * 10 ^ (6 - if P6 y > P6 x then P6 y else P6 x).toNat = x - y := by
  obtain ⟨h1, h2, h3⟩ := mx_lo x y
  rw [Int.sub_mul, scaled h1 h3, scaled h2 h3]
theorem pow10_pos (n : Nat) : (0 : Int) < 10 ^ n := Int.pow_pos (by decide)
theorem minus_sign (x y : Int) : (T6 x * 10 ^ ((if P6 y > P6 x then P6 y else P6 x) - P6 x).toNat - T6 y * 10 ^ ((if P6 y > P6 x then P6 y else P6 x) - P6 y).toNat).sign = (x - y).sign := by
  rw [← minus_eq x y, Int.sign_mul, Int.sign_eq_one_of_pos (pow10_pos _), Int.mul_one]
/-- z is the product of x and y at scale 6 -/
theorem times_eq' {x y : Int} (h : P6 x + P6 y ≤ 6) : T6 x * T6 y * 10 ^ (6 - (P6 x + P6 y)).toNat * 1000000 = x * y := by
  have e : (10 : Int) ^ (6 - (P6 x + P6 y)).toNat * 1000000 = 10 ^ (6 - P6 x).toNat * 10 ^ (6 - P6 y).toNat := by
    rw [show (1000000 : Int) = 10 ^ 6 from rfl, ← Int.pow_add, ← Int.pow_add]
    congr 1
    have := P6_lo x; have := P6_lo y
    omega
  rw [Int.mul_assoc, e]
  conv => rhs; rw [← T6_mul x, ← T6_mul y]
  simp only [Int.mul_assoc, Int.mul_left_comm, Int.mul_comm]
theorem times_eq {x y z : Int} (h : P6 x + P6 y ≤ 6) (hz : z * 1000000 = x * y) : T6 x * T6 y * 10 ^ (6 - (P6 x + P6 y)).toNat = z := by
  have := times_eq' h
  omega

theorem sign_neg {x y : Int} (h : (x - y).sign < 0) : x < y := by have := Int.sign_neg_iff.mp h; omega
theorem sign_pos {x y : Int} (h : 0 < (x - y).sign) : y < x := by have := Int.sign_pos_iff.mp h; omega
theorem max_neg {x y : Int} (h : (x - y).sign < 0) : max x y = y := by have := sign_neg h; omega
theorem max_not {x y : Int} (h : ¬ (x - y).sign < 0) : max x y = x := by
  have : ¬ x < y := fun q => h (Int.sign_neg_iff.mpr (by omega))
  omega
theorem min_pos {x y : Int} (h : 0 < (x - y).sign) : min x y = y := by have := sign_pos h; omega
theorem min_not {x y : Int} (h : ¬ 0 < (x - y).sign) : min x y = x := by
  have : ¬ y < x := fun q => h (Int.sign_pos_iff.mpr (by omega))
  omega

/-- cut to 0 to 1, at scale 6 -/
noncomputable def clp (x : Int) : Int := min (max x 0) 1000000
theorem clp_lo (x : Int) : 0 ≤ clp x := by unfold clp; omega
theorem clp_hi (x : Int) : clp x ≤ 1000000 := by unfold clp; omega

/- the greatest scale of one, two, three, as the loop makes it -/
noncomputable abbrev m1 (x : Int) : Int := if P6 x > 0 then P6 x else 0
noncomputable abbrev m2 (x y : Int) : Int := if P6 y > (if P6 x > 0 then P6 x else 0) then P6 y else (if P6 x > 0 then P6 x else 0)
noncomputable abbrev m3 (x y z : Int) : Int := if P6 z > (if P6 y > (if P6 x > 0 then P6 x else 0) then P6 y else (if P6 x > 0 then P6 x else 0)) then P6 z else (if P6 y > (if P6 x > 0 then P6 x else 0) then P6 y else (if P6 x > 0 then P6 x else 0))
theorem m1_ok (x : Int) : P6 x ≤ m1 x ∧ 0 ≤ m1 x ∧ m1 x ≤ 6 := by
  have := P6_hi x; have := P6_lo x
  unfold m1; split <;> omega
theorem m2_ok (x y : Int) : P6 x ≤ m2 x y ∧ P6 y ≤ m2 x y ∧ 0 ≤ m2 x y ∧ m2 x y ≤ 6 := by
  have := m1_ok x; have := P6_hi y; have := P6_lo y
  unfold m2; unfold m1 at this; split <;> omega
theorem m3_ok (x y z : Int) : P6 x ≤ m3 x y z ∧ P6 y ≤ m3 x y z ∧ P6 z ≤ m3 x y z ∧ 0 ≤ m3 x y z ∧ m3 x y z ≤ 6 := by
  have h := m2_ok x y; have := P6_hi z; have := P6_lo z
  unfold m3; unfold m2 at h; split <;> omega
theorem sum1_eq (x : Int) : (T6 x * 10 ^ (m1 x - P6 x).toNat + 0) * 10 ^ (6 - m1 x).toNat = x := by
  obtain ⟨h1, _, h2⟩ := m1_ok x
  rw [Int.add_zero, scaled h1 h2]
theorem sum2_eq (x y : Int) : (T6 x * 10 ^ (m2 x y - P6 x).toNat + (T6 y * 10 ^ (m2 x y - P6 y).toNat + 0)) * 10 ^ (6 - m2 x y).toNat = x + y := by
  obtain ⟨h1, h2, _, h3⟩ := m2_ok x y
  rw [Int.add_zero, Int.add_mul, scaled h1 h3, scaled h2 h3]
theorem sum3_eq (x y z : Int) : (T6 x * 10 ^ (m3 x y z - P6 x).toNat + (T6 y * 10 ^ (m3 x y z - P6 y).toNat + (T6 z * 10 ^ (m3 x y z - P6 z).toNat + 0))) * 10 ^ (6 - m3 x y z).toNat = x + (y + z) := by
  obtain ⟨h1, h2, h3, _, h4⟩ := m3_ok x y z
  rw [Int.add_zero, Int.add_mul, Int.add_mul, scaled h1 h4, scaled h2 h4, scaled h3 h4]
section
local macro_rules | `(tactic| k_room) => `(tactic| ktr_room)
local macro_rules | `(tactic| k_units) => `(tactic| ktr_units)
local macro_rules | `(tactic| k_enter) => `(tactic|
  (refine' code_def ?k1 ?k2 ?k3 ?k4 ?k5 ?kA ?kF ?kK ?k6 ?k7 ?k8 ?k9 ?kB ?_ ?c2 ?c3 ?c4 ?c5; (case kA => exact rfl); (case kF => exact rfl); (case kK => first | exact rfl | assumption); (case k1 => k_asm); (case k2 => k_asm); (case k3 => k_asm); (case k4 => k_asm); (case k5 => k_asm); (case k6 => k_is); (case k7 => k_is); (case k8 => k_room); (case k9 => first | exact BindsTo.of_eq rfl | exact binds_K (by k_in) rfl (by k_is) rfl rfl rfl | fail "k_enter: no rule for these arguments"); (case c5 => decide); (case kB => exact locs rfl); (case c2 => exact rfl); (case c3 => exact rfl); (case c4 => exact rfl); k_whole; intro g' L' h' FG' F' N' B' X' T'; (try dsimp only); (try k_lift B'); (try k_fold)))
-- a contract's entry, the rest of the ledger kept aside
local macro_rules | `(tactic| walk_at "my_enterR") => `(tactic|
  (refine' code_defR ?k1 ?k2 ?k3 ?k4 ?k5 ?kA ?kF ?kK ?k6 ?k7 ?k8 ?k9 ?kB ?_ ?c2 ?c3 ?c4 ?c5; (case kA => exact rfl); (case kF => exact rfl); (case kK => first | exact rfl | assumption); (case k1 => k_asm); (case k2 => k_asm); (case k3 => k_asm); (case k4 => k_asm); (case k5 => k_asm); (case k6 => k_is); (case k7 => k_is); (case k8 => k_room); (case k9 => first | exact BindsTo.of_eq rfl | exact binds_K (by k_in) rfl (by k_is) rfl rfl rfl | fail "k_enter: no rule for these arguments"); (case c5 => decide); (case kB => exact locs rfl); (case c2 => exact rfl); (case c3 => exact rfl); (case c4 => exact rfl); k_whole; intro g' L' h' FG' F' N' B' X' T' hgR'; (try dsimp only); (try k_lift B'); (try k_fold)))
local macro_rules | `(tactic| walk_at "my_B") => `(tactic| first | k_asm)
local macro_rules | `(tactic| walk_at "my_side") => `(tactic| (
  (case kB => k_asm); (case kF => k_asm); (case kX => k_asm); (case kN => k_asm); (case kT => k_asm); (case kk => first | exact rfl | assumption); (case kd => ktr_room); (case ku => ktr_units)))
local macro_rules | `(tactic| k_mem) => `(tactic| ((fail_if_success (refine' List.Mem.tail _ ?_)); assumption))
local macro_rules | `(tactic| walk_at "exec For Name Subscript cons nil") => `(tactic| (k_here; (rename Fr _ _ _ _ => lF'); (with_unfolding_all refine' For_invVF lF' ?k1 ?k2 ?_; (case k1 => exact rfl); (case k2 => exact rfl); k_whole)))
noncomputable abbrev Led := List (Addr × Obj)
noncomputable abbrev Lo : List Str := looseW hd.view_39 [Str.ofString "PaperError", Str.ofString "told_objects", Str.ofString "Space"]
noncomputable abbrev Pr : Program := PySem.Challenge.rw_pb0478_01.row.prog
/-- the dict of a Decimal -/
noncomputable abbrev decD (w : World) (k1 k2 k3 k4 : Tok) (t p : Int) : Obj := dictOf [⟨PyData.keyHash w.params (Str.ofString "top"), .str (Str.ofString "top") k1, .int t k2⟩, ⟨PyData.keyHash w.params (Str.ofString "places"), .str (Str.ofString "places") k3, .int p k4⟩] 2
/-- the dict of a device space -/
noncomputable abbrev spD (w : World) (k1 k2 k3 k4 k5 k6 k7 : Tok) (n : Str) (t : Tok) (c : Int) (t' : Tok) : Obj := dictOf [⟨PyData.keyHash w.params (Str.ofString "name"), .str (Str.ofString "name") k1, .str n t⟩, ⟨PyData.keyHash w.params (Str.ofString "count"), .str (Str.ofString "count") k2, .int c t'⟩, ⟨PyData.keyHash w.params (Str.ofString "base"), .str (Str.ofString "base") k3, .none⟩, ⟨PyData.keyHash w.params (Str.ofString "table"), .str (Str.ofString "table") k4, .bytes #[] 632⟩, ⟨PyData.keyHash w.params (Str.ofString "most"), .str (Str.ofString "most") k5, .int 0 633⟩, ⟨PyData.keyHash w.params (Str.ofString "tint"), .str (Str.ofString "tint") k6, .none⟩, ⟨PyData.keyHash w.params (Str.ofString "inks"), .str (Str.ofString "inks") k7, .ref 353⟩] 7
local macro_rules | `(tactic| k_room) => `(tactic| ktr_room)
local macro_rules | `(tactic| k_units) => `(tactic| ktr_units)
section
variable {w : World} {dp un : Nat} {gd : Option (List Code)} {cn : Str} {cs : Scope} {a : Addr} {ccd : Value} {cl : List (Str × Addr)} {outer : List Env} {A₀ : Around} {base h₀ : Heap} {L : Addr} {m : Str → Option Value} {mean : ExcName → Option Value} {mg mb : Str → Option Value} {news : Led} {s : Shared} {Q E : Value → Shared → Prop}
set_option maxRecDepth 100000 in
set_option maxHeartbeats 1000000 in
theorem ct_Decimal {i p : Int} {t t2 : Tok}
   (B : Below A₀ base outer h₀) (F : Fr h₀ L s.heap m) (X : (hd.heap_39 w.params).In h₀) (N : News h₀ L s.heap news) (T : Top hd.view_39 Lo mean mg mb h₀)
   (hk : cs.kind = .function) (hd : dp + 10 < recursionLimit) (hp0 : 0 ≤ p) (hp1 : p ≤ 6) {x : Int} (hx : i * 10 ^ (6 - p).toNat = x)
   (hret : ∀ r d k1 k2 k3 k4 h' tk', (hlt : ∀ p ∈ news, p.1 < d) → (hdr : d < r) → Fr h₀ L h' m → News h₀ L h' ((r, instObj 155 d) :: (d, decD w k1 k2 k3 k4 (T6 x) (P6 x)) :: news) → Q (.ref r) { s with heap := h', toks := tk' }) :
   wpAny (model PySem.Challenge.rw_pb0478_01.row.prog w) (ktrTop dp un gd cn cs L a ccd cl outer) (call (.ref 155) [.int i t, .int p t2]) Q E s := by
  subst hx
  revert X; k_fill; intro X
  k_with "exec While BoolOp cons nil" => k_while (fun _ x y => 0 ≤ y ∧ y ≤ 6 ∧ dn x y.toNat = dn i p.toNat) (fun _ x y => y.toNat) "top" "places"
  k_with "state" => exact ⟨hp0, hp1, rfl⟩
  k_with "state" => exact ⟨by omega, by omega, dn_turn (by assumption) (by assumption) (by assumption)⟩
  k_steps
  all_goals (
    have e := made_tp hp0 hp1 (by assumption) (by omega) (by first | exact .inl (by assumption) | exact .inr (by assumption))
    rw [e.1, e.2] at hret
    exact hret _ _ _ _ _ _ _ _ (by assumption) (by assumption) (by assumption) (by assumption))
set_option maxRecDepth 100000 in
set_option maxHeartbeats 1000000 in
theorem ct_Space {n : Str} {c : Int} {t t2 : Tok}
   (B : Below A₀ base outer h₀) (F : Fr h₀ L s.heap m) (X : (hd.heap_39 w.params).In h₀) (N : News h₀ L s.heap news) (T : Top hd.view_39 Lo mean mg mb h₀)
   (hk : cs.kind = .function) (hd : dp + 10 < recursionLimit)
   (hret : ∀ r d k1 k2 k3 k4 k5 k6 k7 h' tk', (hlt : ∀ p ∈ news, p.1 < d) → (hdr : d < r) → Fr h₀ L h' m → News h₀ L h' ((r, instObj 371 d) :: (d, spD w k1 k2 k3 k4 k5 k6 k7 n t c t2) :: news) → Q (.ref r) { s with heap := h', toks := tk' }) :
   wpAny (model PySem.Challenge.rw_pb0478_01.row.prog w) (ktrTop dp un gd cn cs L a ccd cl outer) (call (.ref 371) [.str n t, .int c t2]) Q E s := by
  revert X; k_fill; intro X
  k_steps
  exact hret _ _ _ _ _ _ _ _ _ _ _ (by assumption) (by assumption) (by assumption) (by assumption)
end
end
section
theorem code_defR {prog : Program} {w : World} {A₀ A : Around} {s : Shared} {base h₀ : Heap} {outer : List Env} {L : Addr} {m mg mb : Str → Option Value} {env : Env} {news : List (Addr × Obj)} {K : Frag} {p : Program} {loose : List Str} {mean : ExcName → Option Value}
    {R : Result → Shared → Prop} {name qual : Str} {params : Arguments} {body : List Stmt} {scope : Scope} {dV kV doc pm cdv ct oc : Value} {an od : Option Addr} {osl : Array (Option Value)} {f : Addr} {args : Args} {binds : List (Str × Value)}
    (B : Below A₀ base outer h₀) (F : Fr h₀ L s.heap m) (X₀ : K.In h₀) (N : News h₀ L s.heap news) (T : Top p loose mean mg mb h₀) (hA : A.frames = some (env :: outer)) (hf : env.frame = some L) (hke : env.scope.kind = .function)
    (ho : K.lookup f = some ⟨oc, od, .func (fnOf name qual params body scope dV kV doc pm an cdv ct), osl⟩) (hcd : codeIn K cdv qual = true) (hroom : A.depth < recursionLimit)
    (hbind : BindsTo s (fnOf name qual params body scope dV kV doc pm an cdv ct) args binds) (hloc : ∀ y ∈ binds, scope.names.lookup y.1 = some .local)
    (h : ∀ g L' h₁, Fr h₀ L g m → Fr g L' h₁ (fun y => binds.reverse.lookup y) → News g L' h₁ news → Below A base (env :: outer) g → K.In g → Top p loose mean mg mb g → (∀ b o, s.heap.get? b = some o → b ∉ news.map (·.1) → g.get? b = some o) →
      wpAny (model prog w) (A.deeper (envOf qual scope L' f cdv)) (execs body (envOf qual scope L' f cdv))
        (fun fl s' => LeaveK h₀ L m g R (match fl with | .ret v => v | _ => .none) s')
        (fun e s' => wpAny (model prog w) (A.deeper (envOf qual scope L' f cdv)) (leaving (envOf qual scope L' f cdv) e) (fun _ s'' => R (.error e) s'') (fun e' s'' => R (.error e') s'') s')
        { s with heap := h₁, toks := s.toks + binds.length })
    (hco : scope.isCoroutine = false) (hgen : scope.isGenerator = false) (hk : scope.kind = .function)
    (hcell : ∀ x ∈ scope.names, x.2 ≠ .cell) : codeAny (model prog w) A (.call (.ref f) args) R s := by
  have G := groundX (R := R) B F N hA hf hke
  have Xs := X₀.keeps F.keep
  refine codeAny_call_def (fd := fnOf name qual params body scope dV kV doc pm an cdv ct) (body := body) (binds := binds) hroom (Xs _ _ ho) rfl (T.nolimit.keeps F.keep) (codeRec_of Xs hcd) rfl hbind hcell hloc (fun h₁ n₁ k₁ => ?_) hco hgen hk
  have old : ∀ b o, (hideAll s.heap (news.map (·.1))).get? b = some o → h₁.get? b = some o := fun b o e => k₁ b o (of_hideAll _ e)
  have Nn : News (hideAll s.heap (news.map (·.1))) s.heap.objs.size h₁ news := by
    intro q hq
    refine ⟨k₁ _ _ (N q hq).1, ?_, hideAll_none _ (List.mem_map_of_mem hq)⟩
    exact Nat.ne_of_lt (Heap.lt_size (N q hq).1)
  have run := h _ s.heap.objs.size h₁ G.1 ⟨n₁, old, Nat.le_of_eq (hideAll_size _ _)⟩ Nn G.2.1 (X₀.keeps G.2.2.1) (T.keeps G.2.2.1) (fun b o e hn => hideAll_get _ e hn)
  exact wpAny_mono run (fun fl s' => G.2.2.2 _ s') (fun _ _ y => y)

/-- what stood in the ledger stands again behind a call that was entered with a part of it -/
theorem rest_news {h₀ g h h' : Heap} {L L' : Addr} {m' : Str → Option Value} {all led new : Led} (N : News h₀ L h all) (F' : Fr g L' h' m') (hg : ∀ b o, h.get? b = some o → b ∉ led.map (·.1) → g.get? b = some o)
    (sub : ∀ p ∈ led, p ∈ all) (N' : News h₀ L h' new) (sub' : ∀ p ∈ led, p ∈ new) : ∀ p ∈ all, h'.get? p.1 = some p.2 ∧ p.1 ≠ L ∧ h₀.get? p.1 = none := by
  intro p hp
  refine ⟨?_, (N p hp).2⟩
  by_cases hm : p.1 ∈ led.map (·.1)
  · obtain ⟨q, hq, e⟩ := List.mem_map.mp hm
    have h1 := (N q (sub q hq)).1
    have h2 := (N p hp).1
    rw [e] at h1
    have h3 : q.2 = p.2 := Option.some.inj (h1.symm.trans h2)
    rw [← e, ← h3]
    exact (N' q (sub' q hq)).1
  · exact F'.keep _ _ (hg _ _ (N p hp).1 hm)
theorem news_app {h₀ h : Heap} {L : Addr} {a b : Led} (x : News h₀ L h a) (y : News h₀ L h b) : News h₀ L h (a ++ b) := fun p hp => (List.mem_append.mp hp).elim (x p) (y p)
theorem news_sub {h₀ h : Heap} {L : Addr} {a b : Led} (x : News h₀ L h b) (s : ∀ p ∈ a, p ∈ b) : News h₀ L h a := fun p hp => x p (s p hp)
structure Kp (P : Prop) : Prop where
  out : P
local macro_rules | `(tactic| k_room) => `(tactic| ktr_room)
local macro_rules | `(tactic| k_units) => `(tactic| ktr_units)
local macro_rules | `(tactic| k_enter) => `(tactic|
  (refine' code_def ?k1 ?k2 ?k3 ?k4 ?k5 ?kA ?kF ?kK ?k6 ?k7 ?k8 ?k9 ?kB ?_ ?c2 ?c3 ?c4 ?c5; (case kA => exact rfl); (case kF => exact rfl); (case kK => first | exact rfl | assumption); (case k1 => k_asm); (case k2 => k_asm); (case k3 => k_asm); (case k4 => k_asm); (case k5 => k_asm); (case k6 => k_is); (case k7 => k_is); (case k8 => k_room); (case k9 => first | exact BindsTo.of_eq rfl | exact binds_K (by k_in) rfl (by k_is) rfl rfl rfl | fail "k_enter: no rule for these arguments"); (case c5 => decide); (case kB => exact locs rfl); (case c2 => exact rfl); (case c3 => exact rfl); (case c4 => exact rfl); k_whole; intro g' L' h' FG' F' N' B' X' T'; (try dsimp only); (try k_lift B'); (try k_fold)))
-- a contract's entry, the rest of the ledger kept aside
local macro_rules | `(tactic| walk_at "my_enterR") => `(tactic|
  (refine' code_defR ?k1 ?k2 ?k3 ?k4 ?k5 ?kA ?kF ?kK ?k6 ?k7 ?k8 ?k9 ?kB ?_ ?c2 ?c3 ?c4 ?c5; (case kA => exact rfl); (case kF => exact rfl); (case kK => first | exact rfl | assumption); (case k1 => k_asm); (case k2 => k_asm); (case k3 => k_asm); (case k4 => k_asm); (case k5 => k_asm); (case k6 => k_is); (case k7 => k_is); (case k8 => k_room); (case k9 => first | exact BindsTo.of_eq rfl | exact binds_K (by k_in) rfl (by k_is) rfl rfl rfl | fail "k_enter: no rule for these arguments"); (case c5 => decide); (case kB => exact locs rfl); (case c2 => exact rfl); (case c3 => exact rfl); (case c4 => exact rfl); k_whole; intro g' L' h' FG' F' N' B' X' T' hgR'; (try dsimp only); (try k_lift B'); (try k_fold)))
local macro_rules | `(tactic| walk_at "my_B") => `(tactic| first | k_asm)
local macro_rules | `(tactic| walk_at "my_side") => `(tactic| (
  (case kB => k_asm); (case kF => k_asm); (case kX => k_asm); (case kN => k_asm); (case kT => k_asm); (case kk => first | exact rfl | assumption); (case kd => ktr_room); (case ku => ktr_units)))
local macro_rules | `(tactic| k_mem) => `(tactic| ((fail_if_success (refine' List.Mem.tail _ ?_)); assumption))
local macro_rules | `(tactic| walk_at "exec For Name Subscript cons nil") => `(tactic| (k_here; (rename Fr _ _ _ _ => lF'); (with_unfolding_all refine' For_invVF lF' ?k1 ?k2 ?_; (case k1 => exact rfl); (case k2 => exact rfl); k_whole)))
local macro_rules | `(tactic| walk_at "binaryOp Pow int int") => `(tactic| (k_here; (with_reducible refine PyProof.Rows.pow_int_small ?kb1 ?kb2 ?kb3 ?_); (case kb1 => omega); (case kb2 => omega); (case kb3 => decide)))
local macro_rules | `(tactic| mul_fits) => `(tactic| first | exact PySem.IntMulOk.of_right (bits10 (by omega)) | exact PySem.IntMulOk.of_left (bits10 (by omega)) | exact PySem.IntMulOk.of_left (PySem.intBits_le_64 (by omega) (by omega)) | exact PySem.IntMulOk.of_right (PySem.intBits_le_64 (by omega) (by omega)) | fail "mul_fits: no power of ten")
section
variable {w : World} {dp un : Nat} {gd : Option (List Code)} {cn : Str} {cs : Scope} {a : Addr} {ccd : Value} {cl : List (Str × Addr)} {outer : List Env} {A₀ : Around} {base h₀ : Heap} {L : Addr} {m : Str → Option Value} {mean : ExcName → Option Value} {mg mb : Str → Option Value} {news : Led} {s : Shared} {Q E : Value → Shared → Prop}
theorem fmod_bd (x : Int) {m : Int} (h : 0 < m) : 0 ≤ x.fmod m ∧ x.fmod m < m := ⟨Int.fmod_nonneg_of_pos x h, Int.fmod_lt_of_pos x h⟩
theorem pow5_ok (c : Int) {i : Int} (h0 : 0 ≤ i) (h1 : i ≤ 1000) : (c.fmod 2147483587 + 70019 * i + 6007).natAbs < 2 ^ 64 := by
  have := fmod_bd c (m := 2147483587) (by decide)
  omega
theorem pow3_ok (c : Int) {i : Int} (h0 : 0 ≤ i) (h1 : i ≤ 1000) : (c.fmod 2147483629 * (2 * i + 3011) + 701 * i * i + 37).natAbs < 2 ^ 64 := by
  have h := fmod_bd c (m := 2147483629) (by decide)
  have a1 : c.fmod 2147483629 * (2 * i + 3011) ≤ 2147483629 * 5011 := Int.mul_le_mul (by omega) (by omega) (by omega) (by decide)
  have a0 : 0 ≤ c.fmod 2147483629 * (2 * i + 3011) := Int.mul_nonneg h.1 (by omega)
  have b1 : 701 * i * i ≤ 701000 * 1000 := Int.mul_le_mul (by omega) (by omega) (by omega) (by decide)
  have b0 : 0 ≤ 701 * i * i := Int.mul_nonneg (by omega) h0
  omega
local macro_rules | `(tactic| walk_at "binaryOp Pow int int") => `(tactic| (k_here; (with_reducible refine PyProof.Rows.pow_int_small ?kb1 ?kb2 ?kb3 ?_); (case kb1 => decide); (case kb2 => decide); (case kb3 => first | decide | with_reducible_and_instances exact pow5_ok _ (by assumption) (by assumption) | with_reducible_and_instances exact pow3_ok _ (by assumption) (by assumption))))
theorem pen_back {h₀ g' h h' : Heap} {L L' pen q : Addr} {m' : Str → Option Value} {all new : Led} {o o' oq : Obj} {g : Obj → Led} (N : Kp (News h₀ L h all)) (U : Kp (UpdF pen o all g))
    (hg : ∀ b x, h.get? b = some x → b ∉ ([(pen, o), (q, oq)] : Led).map (·.1) → g'.get? b = some x) (F' : Fr g' L' h' m') (N' : News h₀ L h' new) (hp : (pen, o') ∈ new) (hq : (q, oq) ∈ new) (hq0 : (q, oq) ∈ all) : News h₀ L h' (g o') := by
  obtain ⟨own, rest, e, hgo, h1, h2⟩ := U.out.split
  have key : ∀ p ∈ all, p.1 ≠ pen → h'.get? p.1 = some p.2 ∧ p.1 ≠ L ∧ h₀.get? p.1 = none := fun p hpa hne => by
    refine ⟨?_, (N.out p hpa).2⟩
    by_cases hz : p.1 = q
    · have e1 := (N.out _ hq0).1
      have e2 := (N.out p hpa).1
      rw [hz] at e2
      rw [hz, ← Option.some.inj (e1.symm.trans e2)]
      exact (N' _ hq).1
    · refine F'.keep _ _ (hg _ _ (N.out p hpa).1 ?_)
      simp only [List.map_cons, List.map_nil, List.mem_cons, List.not_mem_nil, or_false, not_or]
      exact ⟨hne, hz⟩
  rw [hgo]
  intro p hpm
  rcases List.mem_append.mp hpm with hpm | hpm
  · exact key p (by rw [e]; exact List.mem_append_left _ hpm) (h1 p hpm)
  · rcases List.mem_cons.mp hpm with rfl | hpm
    · exact N' _ hp
    · exact key p (by rw [e]; exact List.mem_append_right _ (.tail _ hpm)) (h2 p hpm)
/-- the law's pen -/
noncomputable abbrev penO (q : Addr) (i : Int) (t : Tok) (j : Int) (u : Tok) (n : Nat) : Obj := listOf [.ref q, .int i t, .int j u].toArray n
set_option maxRecDepth 100000 in
set_option maxHeartbeats 600000 in
theorem ct_draw {pen q : Addr} {i j k : Int} {t u v : Tok} {n c : Nat} {ys : List Value} {ns : List Int} {g : Obj → Led}
   (B : Below A₀ base outer h₀) (F : Fr h₀ L s.heap m) (X : (hd.heap_39 w.params).In h₀) (N : News h₀ L s.heap news) (T : Top hd.view_39 Lo mean mg mb h₀)
   (hk : cs.kind = .function) (hd : dp + 60 < recursionLimit) (hu : un + 300 < cLine) (U : UpdF pen (penO q i t j u n) news g) (hq : (q, listOf ys.toArray c) ∈ news) (hI : IntsAre ys ns) (hL : ns.length ≤ 63)
   (hk0 : 0 < k) (hk1 : k < 100000) (hi0 : 0 ≤ i) (hi1 : i ≤ 1000) (hj : 0 ≤ j)
   (hret : ∀ d td i' t' j' u' n' h' tk', 0 ≤ d → d < k → i ≤ i' → i' ≤ i + 1 → 0 ≤ j' → Fr h₀ L h' m → News h₀ L h' (g (penO q i' t' j' u' n')) → Q (.int d td) { s with heap := h', toks := tk' }) :
   wpAny (model PySem.Challenge.rw_pb0478_01.row.prog w) (ktrTop dp un gd cn cs L a ccd cl outer) (call (.ref 458) [.ref pen, .int k v]) Q E s := by
  revert X; k_fill; intro X
  have hp : (pen, penO q i t j u n) ∈ news := by
    obtain ⟨own, rest, e, _⟩ := U.split
    rw [e]; exact List.mem_append_right _ (.head _)
  have KN : Kp (News h₀ L s.heap news) := ⟨N⟩
  have KS : Kp (∀ p ∈ ([(pen, penO q i t j u n), (q, listOf ys.toArray c)] : Led), p ∈ news) := ⟨by simp only [List.forall_mem_cons, List.not_mem_nil, false_implies, implies_true, and_true]; exact ⟨hp, hq⟩⟩
  have KU := Kp.mk U
  have hpq : @Ne Nat pen q := by
    intro e
    have h1 := (N _ hp).1
    have h2 := (N _ hq).1
    subst e
    have := Option.some.inj (h1.symm.trans h2)
    injection this with _ _ h3 _
    injection h3 with h4 _
    have h5 := congrArg Array.toList h4
    simp only [List.toList_toArray] at h5
    subst h5
    cases hI
  have hqp : @Ne Nat q pen := hpq.symm
  have N1 := news_sub N KS.out
  clear N U
  refine wpAny_call ?_
  k_dflt (walk_at "my_enterR")
  k_steps
  all_goals first
    | exact absurd ‹decide (ns = []) = false› (by have z : ns = [] := List.eq_nil_of_length_eq_zero (by omega); simp [z])
    | ((refine' hret _ _ _ _ _ _ _ _ _ (fmod_bd _ hk0).1 (fmod_bd _ hk0).2 ?c1 ?c2 ?c3 (by assumption) ?n)
       (case n => exact pen_back KN KU (by assumption) (by assumption) (by assumption) (by k_mem) (by k_mem) hq)
       (case c1 => omega)
       (case c2 => omega)
       (case c3 => first | omega | exact Int.fdiv_nonneg hj (by omega) | exact Int.fdiv_nonneg (Int.sub_nonneg.mpr (by assumption)) (by omega)))
end
end
/- a small logic over the text's trees -/
noncomputable abbrev tupO (vs : List Value) : Obj := { cls := .type "tuple", data := .seq vs.toArray }

/-- a value as a tree -/
inductive AV : Type
  | none | bool (b : Bool) | int (i : Int) | str (x : Str) | val (v : Value) | tup (l : List AV) | lst (l : List AV) | dec (x : Int) | sp (n : Str) (c : Int) | dct (D : List (PyData × PyData)) | bts (b : Array UInt8)
mutual
/-- in the ledger the value stands for the tree -/
inductive Is (w : World) (led : Led) : Value → AV → Prop
  | none : Is w led .none .none
  | bool (b : Bool) : Is w led (.bool b) (.bool b)
  | int (i : Int) (t : Tok) : Is w led (.int i t) (.int i)
  | bts (b : Array UInt8) (t : Tok) : Is w led (.bytes b t) (.bts b)
  | str (x : Str) (t : Tok) : Is w led (.str x t) (.str x)
  | val (v : Value) : Is w led v (.val v)
  | tup {a : Addr} {vs : List Value} {l : List AV} (h : (a, tupO vs) ∈ led) (hs : Alls w led vs l) : Is w led (.ref a) (.tup l)
  | lst {a : Addr} {vs : List Value} {l : List AV} {n : Nat} (h : (a, listOf vs.toArray n) ∈ led) (hs : Alls w led vs l) : Is w led (.ref a) (.lst l)
  | dec {a d : Addr} {k1 k2 k3 k4 : Tok} {x : Int} (h1 : (a, instObj 155 d) ∈ led) (h2 : (d, decD w k1 k2 k3 k4 (T6 x) (P6 x)) ∈ led) : Is w led (.ref a) (.dec x)
  | sp {a d : Addr} {k1 k2 k3 k4 k5 k6 k7 t t' : Tok} {n : Str} {c : Int} (h1 : (a, instObj 371 d) ∈ led) (h2 : (d, spD w k1 k2 k3 k4 k5 k6 k7 n t c t') ∈ led) : Is w led (.ref a) (.sp n c)
  | dct {a : Addr} {o : Obj} {kvs : List (Str × Value)} {D : List (PyData × PyData)} (h : (a, o) ∈ led) (hs : (a == sysModules) = false) (h1 : o.IsDictOf (strKind Pr w) kvs) (h2 : PyProof.V.FlatPairs PyData.str kvs D) : Is w led (.ref a) (.dct D)
inductive Alls (w : World) (led : Led) : List Value → List AV → Prop
  | nil : Alls w led [] []
  | cons {v : Value} {a : AV} {vs : List Value} {l : List AV} (h : Is w led v a) (hs : Alls w led vs l) : Alls w led (v :: vs) (a :: l)
end
noncomputable abbrev Sub (a b : Led) : Prop := ∀ p ∈ a, p ∈ b
mutual
theorem Is.up {w : World} {a b : Led} (k : Sub a b) : ∀ {v : Value} {x : AV}, Is w a v x → Is w b v x
  | _, _, .none => .none
  | _, _, .bool _ => .bool _
  | _, _, .int _ _ => .int _ _
  | _, _, .bts _ _ => .bts _ _
  | _, _, .str _ _ => .str _ _
  | _, _, .val _ => .val _
  | _, _, .tup h hs => .tup (k _ h) (hs.up k)
  | _, _, .lst h hs => .lst (k _ h) (hs.up k)
  | _, _, .dec h1 h2 => .dec (k _ h1) (k _ h2)
  | _, _, .sp h1 h2 => .sp (k _ h1) (k _ h2)
  | _, _, .dct h hs h1 h2 => .dct (k _ h) hs h1 h2
theorem Alls.up {w : World} {a b : Led} (k : Sub a b) : ∀ {vs : List Value} {l : List AV}, Alls w a vs l → Alls w b vs l
  | _, _, .nil => .nil
  | _, _, .cons h hs => .cons (h.up k) (hs.up k)
end
theorem Alls.app {w : World} {led : Led} : ∀ {vs us : List Value} {l k : List AV}, Alls w led vs l → Alls w led us k → Alls w led (vs ++ us) (l ++ k)
  | _, _, _, _, .nil, y => y
  | _, _, _, _, .cons h hs, y => .cons h (hs.app y)
theorem Alls.length {w : World} {led : Led} : ∀ {vs : List Value} {l : List AV}, Alls w led vs l → vs.length = l.length
  | _, _, .nil => rfl
  | _, _, .cons _ hs => congrArg (· + 1) hs.length
theorem Alls.get {w : World} {led : Led} : ∀ {vs : List Value} {l : List AV} (i : Nat) {a : AV}, Alls w led vs l → l[i]? = some a → ∃ v, vs[i]? = some v ∧ Is w led v a
  | _, _, 0, _, .cons h _, e => ⟨_, rfl, by cases e; exact h⟩
  | _, _, i + 1, _, .cons _ hs, e => hs.get i e
theorem Alls.getV {w : World} {led : Led} : ∀ {vs : List Value} {l : List AV} (i : Nat) {v : Value}, Alls w led vs l → vs[i]? = some v → ∃ a, l[i]? = some a ∧ Is w led v a
  | _, _, 0, _, .cons h _, e => ⟨_, rfl, by cases e; exact h⟩
  | _, _, i + 1, _, .cons _ hs, e => hs.getV i e
theorem Alls.one {w : World} {led : Led} {v : Value} {a : AV} (h : Is w led v a) : Alls w led [v] [a] := .cons h .nil
theorem Alls.inv1 {w : World} {led : Led} {vs : List Value} {a : AV} (h : Alls w led vs [a]) : ∃ u, vs = [u] ∧ Is w led u a := by
  cases h with | cons h1 h => cases h; exact ⟨_, rfl, h1⟩
theorem Alls.inv2 {w : World} {led : Led} {vs : List Value} {a b : AV} (h : Alls w led vs [a, b]) : ∃ u v, vs = [u, v] ∧ Is w led u a ∧ Is w led v b := by
  cases h with | cons h1 h => obtain ⟨v, rfl, h2⟩ := h.inv1; exact ⟨_, v, rfl, h1, h2⟩
theorem Alls.inv3 {w : World} {led : Led} {vs : List Value} {a b c : AV} (h : Alls w led vs [a, b, c]) : ∃ u v x, vs = [u, v, x] ∧ Is w led u a ∧ Is w led v b ∧ Is w led x c := by
  cases h with | cons h1 h => obtain ⟨v, x, rfl, h2, h3⟩ := h.inv2; exact ⟨_, v, x, rfl, h1, h2, h3⟩
/-- apart: what changes, what stays -/
noncomputable abbrev Ap (M news : Led) : Prop := ∀ p ∈ news, ∀ q ∈ M, p.1 ≠ q.1
/-- where a call stands -/
structure Ctx where
  dp : Nat
  un : Nat
  gd : Option (List Code)
  cn : Str
  cs : Scope
  L : Addr
  a : Addr
  ccd : Value
  cl : List (Str × Addr)
  outer : List Env
  A₀ : Around
  base : Heap
  h₀ : Heap
  mean : ExcName → Option Value
  mg : Str → Option Value
  mb : Str → Option Value
noncomputable abbrev Ctx.A (c : Ctx) : Around := ktrTop c.dp c.un c.gd c.cn c.cs c.L c.a c.ccd c.cl c.outer
noncomputable abbrev Ctx.env (c : Ctx) : Env := envX c.cn c.cs c.L c.a c.ccd c.cl
/-- d calls deep is room enough -/
structure Ctx.Ok (c : Ctx) (w : World) (d : Nat) : Prop where
  B : Below c.A₀ c.base c.outer c.h₀
  X : (hd.heap_39 w.params).In c.h₀
  T : Top hd.view_39 Lo c.mean c.mg c.mb c.h₀
  hk : c.cs.kind = .function
  hd : c.dp + d < recursionLimit
  hu : c.un + 8 * d + 100 < cLine
theorem Ctx.Ok.le {c : Ctx} {w : World} {d d' : Nat} (h : c.Ok w d) (l : d' ≤ d) : c.Ok w d' := ⟨h.B, h.X, h.T, h.hk, Nat.lt_of_le_of_lt (Nat.add_le_add_left l _) h.hd, by have := h.hu; omega⟩
/-- frame and ledger -/
structure St (c : Ctx) (m : Str → Option Value) (M news : Led) (h : Heap) : Prop where
  F : Fr c.h₀ c.L h m
  N : News c.h₀ c.L h (M ++ news)
  A : Ap M news
theorem St.push {c : Ctx} {m : Str → Option Value} {M news : Led} {h h' : Heap} {l : Addr} {o : Obj} (x : St c m M news h) (F : Fr c.h₀ c.L h' m) (N : News c.h₀ c.L h' ((l, o) :: (M ++ news))) (lt : ∀ p ∈ M ++ news, p.1 < l) : St c m M ((l, o) :: news) h' :=
  ⟨F, fun p hp => N p (by simp only [List.mem_append, List.mem_cons] at hp ⊢; rcases hp with h | h | h <;> simp [h]), fun p hp q hq => by
    rcases List.mem_cons.mp hp with rfl | hp
    · exact Nat.ne_of_gt (lt q (List.mem_append_left _ hq))
    · exact x.A p hp q hq⟩
theorem St.push2 {c : Ctx} {m : Str → Option Value} {M news : Led} {h h' : Heap} {l l' : Addr} {o o' : Obj} (x : St c m M news h) (F : Fr c.h₀ c.L h' m) (N : News c.h₀ c.L h' ((l, o) :: (l', o') :: (M ++ news))) (lt : ∀ p ∈ M ++ news, p.1 < l') (lt' : l' < l) : St c m M ((l, o) :: (l', o') :: news) h' :=
  ⟨F, fun p hp => N p (by simp only [List.mem_append, List.mem_cons] at hp ⊢; rcases hp with h | h | h | h <;> simp [h]), fun p hp q hq => by
    rcases List.mem_cons.mp hp with rfl | hp
    · exact Nat.ne_of_gt (Nat.lt_trans (lt q (List.mem_append_left _ hq)) lt')
    · rcases List.mem_cons.mp hp with rfl | hp
      · exact Nat.ne_of_gt (lt q (List.mem_append_left _ hq))
      · exact x.A p hp q hq⟩
theorem St.same {c : Ctx} {m : Str → Option Value} {M news : Led} {h h' : Heap} (x : St c m M news h) (F : Fr c.h₀ c.L h' m) (N : News c.h₀ c.L h' (M ++ news)) : St c m M news h' := ⟨F, N, x.A⟩
theorem St.mem {c : Ctx} {m : Str → Option Value} {M news : Led} {h : Heap} (x : St c m M news h) {p : Addr × Obj} (hp : p ∈ news) : p ∈ M ++ news := List.mem_append_right _ hp
theorem St.list {c : Ctx} {m : Str → Option Value} {M news : Led} {h : Heap} (x : St c m M news h) {l : Addr} {vs : Array Value} {n : Nat} (hp : (l, listOf vs n) ∈ news) : h.IsList l vs := ⟨_, (x.N _ (x.mem hp)).1, rfl, n, rfl⟩
/-- the newest entry of a name -/
inductive Lk : List (Str × AV) → Str → AV → Prop
  | hd {x : Str} {a : AV} {r : List (Str × AV)} : Lk ((x, a) :: r) x a
  | tl {x y : Str} {a b : AV} {r : List (Str × AV)} (hn : (y == x) = false) (h : Lk r x a) : Lk ((y, b) :: r) x a
theorem Lk.fst {xs : List Str} : ∀ {l : List AV} {x : Str} {a : AV}, Lk (xs.zip l) x a → x ∈ xs := by
  have key : ∀ {ρ : List (Str × AV)} {x : Str} {a : AV}, Lk ρ x a → (x, a) ∈ ρ := fun h => by
    induction h with
    | hd => exact .head _
    | tl _ _ ih => exact .tail _ ih
  exact fun {_ _ _} h => (List.of_mem_zip (key h)).1
theorem news_sub' {h₀ h : Heap} {L : Addr} {M news : Led} (x : News h₀ L h (M ++ news)) : News h₀ L h news := fun p hp => x p (List.mem_append_right _ hp)
/-- what names mean -/
structure Sees (w : World) (kd : Str → Option NameKind) (ρ : List (Str × AV)) (env : Env) (c : Ctx) (m : Str → Option Value) (M news : Led) : Prop where
  kof : env.kindOf = kd
  kind : env.scope.kind = .function
  gl : env.globals = mainGlobals
  bl : env.builtins = builtinsNs
  nm : ∃ mm : Str → Option Value, (∀ h, Fr c.h₀ c.L h m → News c.h₀ c.L h (M ++ news) → h.Ns env.locals mm) ∧
    ∀ x a, Lk ρ x a → (kd x = some .local ∧ ∃ v, mm x = some v ∧ Is w news v a) ∨ (kd x = some .cell ∧ ∃ q o v, env.cells.lookup x = some q ∧ (q, o) ∈ M ∧ o.data = .cell (some v) ∧ Is w news v a)
theorem Sees.up {w : World} {kd : Str → Option NameKind} {ρ : List (Str × AV)} {env : Env} {c : Ctx} {m : Str → Option Value} {M news news' : Led} (x : Sees w kd ρ env c m M news) (k : Sub news news') : Sees w kd ρ env c m M news' := by
  obtain ⟨mm, h1, h2⟩ := x.nm
  refine ⟨x.kof, x.kind, x.gl, x.bl, mm, fun h F N => h1 h F fun p hp => N p ?_, fun y a hy => ?_⟩
  · rcases List.mem_append.mp hp with q | q
    · exact List.mem_append_left _ q
    · exact List.mem_append_right _ (k p q)
  · rcases h2 y a hy with ⟨q, v, e, i⟩ | ⟨q, b, o, v, e1, e2, e3, i⟩
    · exact .inl ⟨q, v, e, i.up k⟩
    · exact .inr ⟨q, b, o, v, e1, e2, e3, i.up k⟩
/-- an expression gives a tree of P -/
noncomputable def Ev (w : World) (d : Nat) (kd : Str → Option NameKind) (ρ : List (Str × AV)) (e : PySem.Expr) (P : AV → Prop) : Prop :=
  ∀ (c : Ctx) (env : Env) (m : Str → Option Value) (M news : Led) (s : Shared) (Q E : Value → Shared → Prop), c.Ok w d → St c m M news s.heap → Sees w kd ρ env c m M news →
    (∀ v a h' tk' news', St c m M news' h' → Sub news news' → P a → Is w news' v a → Q v { s with heap := h', toks := tk' }) → wpAny (model Pr w) c.A (eval e env) Q E s
/-- expressions in a row -/
noncomputable def Evs (w : World) (d : Nat) (kd : Str → Option NameKind) (ρ : List (Str × AV)) (es : List PySem.Expr) (P : List AV → Prop) : Prop :=
  ∀ (pos : Pos) (c : Ctx) (env : Env) (m : Str → Option Value) (M news : Led) (s : Shared) (Q : List Value → Shared → Prop) (E : Value → Shared → Prop), c.Ok w d → St c m M news s.heap → Sees w kd ρ env c m M news →
    (∀ vs l h' tk' news', St c m M news' h' → Sub news news' → P l → Alls w news' vs l → Q vs { s with heap := h', toks := tk' }) → wpAny (model Pr w) c.A (spliced (backTo pos (starEach es env))) Q E s
/-- a test -/
noncomputable def Ts (w : World) (d : Nat) (kd : Str → Option NameKind) (ρ : List (Str × AV)) (e : PySem.Expr) (P : Bool → Prop) : Prop :=
  ∀ (c : Ctx) (env : Env) (m : Str → Option Value) (M news : Led) (s : Shared) (Q : Bool → Shared → Prop) (E : Value → Shared → Prop), c.Ok w d → St c m M news s.heap → Sees w kd ρ env c m M news →
    (∀ b h' tk' news', St c m M news' h' → Sub news news' → P b → Q b { s with heap := h', toks := tk' }) → wpAny (model Pr w) c.A (isTrue e env (eval e env)) Q E s
/-- a deed upon values -/
noncomputable def Do (w : World) (d : Nat) (l : List AV) (t : List Value → Sem Value) (P : AV → Prop) : Prop :=
  ∀ (c : Ctx) (m : Str → Option Value) (M news : Led) (s : Shared) (vs : List Value) (Q E : Value → Shared → Prop), c.Ok w d → St c m M news s.heap → Alls w news vs l →
    (∀ v a h' tk' news', St c m M news' h' → Sub news news' → P a → Is w news' v a → Q v { s with heap := h', toks := tk' }) → wpAny (model Pr w) c.A (t vs) Q E s
noncomputable def Do2 (w : World) (d : Nat) (x y : AV) (t : Value → Value → Sem Value) (P : AV → Prop) : Prop :=
  ∀ (c : Ctx) (m : Str → Option Value) (M news : Led) (s : Shared) (u v : Value) (Q E : Value → Shared → Prop), c.Ok w d → St c m M news s.heap → Is w news u x → Is w news v y →
    (∀ v a h' tk' news', St c m M news' h' → Sub news news' → P a → Is w news' v a → Q v { s with heap := h', toks := tk' }) → wpAny (model Pr w) c.A (t u v) Q E s
noncomputable def Do1 (w : World) (d : Nat) (x : AV) (t : Value → Sem Value) (P : AV → Prop) : Prop :=
  ∀ (c : Ctx) (m : Str → Option Value) (M news : Led) (s : Shared) (u : Value) (Q E : Value → Shared → Prop), c.Ok w d → St c m M news s.heap → Is w news u x →
    (∀ v a h' tk' news', St c m M news' h' → Sub news news' → P a → Is w news' v a → Q v { s with heap := h', toks := tk' }) → wpAny (model Pr w) c.A (t u) Q E s
/-- a def of the text, called -/
noncomputable abbrev Fn (w : World) (d : Nat) (f : Addr) (l : List AV) (P : AV → Prop) : Prop := Do w d l (fun vs => call (.ref f) vs) P
section
variable {w : World} {d : Nat} {kd : Str → Option NameKind} {ρ : List (Str × AV)}
theorem Sub.rfl' {a : Led} : Sub a a := fun _ h => h
theorem Sub.tr {a b c : Led} (x : Sub a b) (y : Sub b c) : Sub a c := fun p h => y p (x p h)
theorem Sub.cons' {a : Led} {q : Addr × Obj} : Sub a (q :: a) := fun _ h => .tail _ h
theorem Ev.imp {e : PySem.Expr} {P P' : AV → Prop} (h : Ev w d kd ρ e P) (k : ∀ a, P a → P' a) : Ev w d kd ρ e P' := fun c env m M news s Q E ok st se q => h c env m M news s Q E ok st se fun v a h' tk' n' st' sb p i => q v a h' tk' n' st' sb (k a p) i
theorem Do.le {l : List AV} {t : List Value → Sem Value} {P : AV → Prop} {d' : Nat} (h : Do w d' l t P) (le : d' ≤ d) : Do w d l t P := fun c m M news s vs Q E ok st al q => h c m M news s vs Q E (ok.le le) st al q
-- names, constants
theorem Ev.name {x : Str} {a : AV} {pos : Pos} (hx : Lk ρ x a) (hd : (x == ("__debug__" : Str)) = false := by decide +kernel) : Ev w d kd ρ (.Name x pos) (· = a) := by
  intro c env m M news s Q E ok st se q
  obtain ⟨mm, h1, h2⟩ := se.nm
  rcases h2 x a hx with ⟨k, v, e, i⟩ | ⟨k, b, o, v, e1, e2, e3, i⟩
  · exact wpAny_Name (wpAny_loadName_local se.kind (by rw [se.kof]; exact k) (h1 _ st.F st.N) e (q v a _ _ news st Sub.rfl' rfl i)) hd
  · exact wpAny_Name (wpAny_loadName_cell se.kind (by rw [se.kof]; exact k) e1 ⟨o, st.N.get (List.mem_append_left _ e2), e3⟩ (q v a _ _ news st Sub.rfl' rfl i)) hd
theorem Ev.glob {x : Str} {v : Value} {pos : Pos} (hk : kd x = some .globalImplicit) (e : nsIn (hd.heap_39 w.params) mainGlobals x = some (some v)) (hd : (x == ("__debug__" : Str)) = false := by decide +kernel) : Ev w d kd ρ (.Name x pos) (· = .val v) := by
  intro c env m M news s Q E ok st se q
  refine Name_function_global se.kind (by rw [se.kof]; exact hk) ?_ hd
  exact loadGlobal_global (env := env) (by rw [se.gl]; exact ok.T.g.keeps st.F.keep) (mg_of ok.X ok.T.g e) (q v _ _ _ news st Sub.rfl' rfl (.val v))
theorem Ev.bltn {x : Str} {v : Value} {pos : Pos} (hk : kd x = some .globalImplicit) (e : nsIn (hd.heap_39 w.params) mainGlobals x = some none) (hv : bootBuiltins x = some v) (hn : x ≠ "__name__" := by decide +kernel) (hd : (x == ("__debug__" : Str)) = false := by decide +kernel) : Ev w d kd ρ (.Name x pos) (· = .val v) := by
  intro c env m M news s Q E ok st se q
  refine Name_function_global se.kind (by rw [se.kof]; exact hk) ?_ hd
  exact loadGlobal_builtin (env := env) (by rw [se.gl]; exact ok.T.g.keeps st.F.keep) (mg_none_of ok.X ok.T.g e) (by rw [se.bl]; exact ok.T.b.keeps st.F.keep) ((ok.T.builtins x hn).trans hv) (q v _ _ _ news st Sub.rfl' rfl (.val v))
theorem Ev.cint {i : Int} {k : Nat} {pos : Pos} : Ev w d kd ρ (.Constant (.int i) k pos) (· = .int i) := fun c env m M news s Q E ok st se q => wpAny_Constant_int (q _ _ _ _ news st Sub.rfl' rfl (.int _ _))
theorem Ev.cstr {x : Str} {k : Nat} {pos : Pos} : Ev w d kd ρ (.Constant (.str x) k pos) (· = .str x) := fun c env m M news s Q E ok st se q => Constant_str (q _ _ _ _ news st Sub.rfl' rfl (.str _ _))
theorem Ev.cnone {k : Nat} {pos : Pos} : Ev w d kd ρ (.Constant .none k pos) (· = .none) := fun c env m M news s Q E ok st se q => wpAny_Constant_none (q _ _ _ _ news st Sub.rfl' rfl .none)
-- rows
theorem Evs.nil : Evs w d kd ρ [] (· = []) := fun pos c env m M news s Q E ok st se q => args_nil (q _ _ _ _ news st Sub.rfl' rfl .nil)
theorem Evs.cons {e : PySem.Expr} {es : List PySem.Expr} {P : AV → Prop} {Pl : List AV → Prop} (h : Ev w d kd ρ e P) (hs : Evs w d kd ρ es Pl) (k : ∀ env, starEach (e :: es) env = (false, eval e env) :: starEach es env := by intro _; with_unfolding_all rfl) :
    Evs w d kd ρ (e :: es) (fun l => ∃ a r, P a ∧ Pl r ∧ l = a :: r) := fun pos c env m M news s Q E ok st se q =>
  args_cons (h c env m M news s _ E ok st se fun v a h' tk' n' st' sb p i => hs pos c env m M n' _ _ E ok st' (se.up sb) fun vs l h2 tk2 n2 st2 sb2 p2 al => q (v :: vs) (a :: l) h2 tk2 n2 st2 (sb.tr sb2) ⟨a, l, p, p2, rfl⟩ (.cons (i.up sb2) al)) (k env)
theorem Evs.imp {es : List PySem.Expr} {P P' : List AV → Prop} (h : Evs w d kd ρ es P) (k : ∀ a, P a → P' a) : Evs w d kd ρ es P' := fun pos c env m M news s Q E ok st se q => h pos c env m M news s Q E ok st se fun v a h' tk' n' st' sb p i => q v a h' tk' n' st' sb (k a p) i
theorem Evs.consD {e : PySem.Expr} {es : List PySem.Expr} {a : AV} {l : List AV} (h : Ev w d kd ρ e (· = a)) (hs : Evs w d kd ρ es (· = l)) (k : ∀ env, starEach (e :: es) env = (false, eval e env) :: starEach es env := by intro _; with_unfolding_all rfl) :
    Evs w d kd ρ (e :: es) (· = a :: l) := (Evs.cons h hs k).imp fun _ ⟨_, _, p, q, e⟩ => by rw [e, p, q]
-- displays
theorem Ev.list {es : List PySem.Expr} {pos : Pos} {l : List AV} (h : Evs w d kd ρ es (· = l)) (hs : l.length ≤ 1000) : Ev w d kd ρ (.List es pos) (· = .lst l) := fun c env m M news s Q E ok st se q =>
  List_ (h pos c env m M news s _ E ok st se fun vs l' h' tk' n' st' sb p al => by
    subst p
    exact newList_K st'.F st'.N (fun D h2 F2 N2 lt => q _ _ _ _ _ (st'.push F2 N2 lt) (sb.tr Sub.cons') rfl (.lst (.head _) (al.up Sub.cons'))) (by rw [al.length, sizeLine_eq]; omega))
theorem Ev.tuple {es : List PySem.Expr} {k : Nat} {pos : Pos} {l : List AV} (h : Evs w d kd ρ es (· = l)) (hs : l.length ≤ 1000) : Ev w d kd ρ (.Tuple es k pos) (· = .tup l) := fun c env m M news s Q E ok st se q =>
  Tuple_ (h pos c env m M news s _ E ok st se fun vs l' h' tk' n' st' sb p al => by
    subst p
    exact kup_newTuple st'.F st'.N (fun D h2 F2 N2 lt => q _ _ _ _ _ (st'.push F2 N2 lt) (sb.tr Sub.cons') rfl (.tup (.head _) (al.up Sub.cons'))) (by rw [al.length, sizeLine_eq]; omega))
-- operators
theorem Ev.bin {l r : PySem.Expr} {op : Operator} {pos : Pos} {P1 P2 P : AV → Prop} (h1 : Ev w d kd ρ l P1) (h2 : Ev w d kd ρ r P2) (ho : ∀ a b, P1 a → P2 b → Do2 w d a b (fun u v => binaryOp op u v) P) : Ev w d kd ρ (.BinOp l op r pos) P := fun c env m M news s Q E ok st se q =>
  wpAny_BinOp (h1 c env m M news s _ E ok st se fun u a h' tk' n' st' sb p i => h2 c env m M n' _ _ E ok st' (se.up sb) fun v b h2 tk2 n2 st2 sb2 p2 i2 =>
    ho a b p p2 c m M n2 _ u v Q E ok st2 (i.up sb2) i2 fun v a h3 tk3 n3 st3 sb3 => q v a h3 tk3 n3 st3 ((sb.tr sb2).tr sb3))
theorem Ev.binD {l r : PySem.Expr} {op : Operator} {pos : Pos} {a b : AV} {P : AV → Prop} (h1 : Ev w d kd ρ l (· = a)) (h2 : Ev w d kd ρ r (· = b)) (ho : Do2 w d a b (fun u v => binaryOp op u v) P) : Ev w d kd ρ (.BinOp l op r pos) P := Ev.bin h1 h2 fun a b e1 e2 => by subst e1; subst e2; exact ho
theorem Do2.add {i j : Int} : Do2 w d (.int i) (.int j) (fun u v => binaryOp .Add u v) (· = .int (i + j)) := by
  intro c m M news s u v Q E ok st hu hv q
  cases hu; cases hv
  exact add_int (q _ _ _ _ news st Sub.rfl' rfl (.int _ _))
theorem Do2.sub {i j : Int} : Do2 w d (.int i) (.int j) (fun u v => binaryOp .Sub u v) (· = .int (i - j)) := by
  intro c m M news s u v Q E ok st hu hv q
  cases hu; cases hv
  exact sub_int (q _ _ _ _ news st Sub.rfl' rfl (.int _ _))
theorem Do2.mul {i j : Int} (h : IntMulOk i j) : Do2 w d (.int i) (.int j) (fun u v => binaryOp .Mult u v) (· = .int (i * j)) := by
  intro c m M news s u v Q E ok st hu hv q
  cases hu; cases hv
  exact mul_int (q _ _ _ _ news st Sub.rfl' rfl (.int _ _)) h
theorem Do2.pow {i j : Int} (h0 : 0 ≤ j) (h1 : j ≤ 1000000) (h2 : i.natAbs < 2 ^ 64) : Do2 w d (.int i) (.int j) (fun u v => binaryOp .Pow u v) (· = .int (i ^ j.toNat)) := by
  intro c m M news s u v Q E ok st hu hv q
  cases hu; cases hv
  exact pow_int_small h0 h1 h2 (q _ _ _ _ news st Sub.rfl' rfl (.int _ _))
theorem Do2.fdiv {i j : Int} (h0 : j ≠ 0) (h1 : j.natAbs < 1073741824) : Do2 w d (.int i) (.int j) (fun u v => binaryOp .FloorDiv u v) (· = .int (i.fdiv j)) := by
  intro c m M news s u v Q E ok st hu hv q
  cases hu; cases hv
  exact floordiv_int h0 (q _ _ _ _ news st Sub.rfl' rfl (.int _ _)) (.inl (PyProof.noPylong_small h1))
theorem Do2.mod {i j : Int} (h0 : j ≠ 0) : Do2 w d (.int i) (.int j) (fun u v => binaryOp .Mod u v) (· = .int (i.fmod j)) := by
  intro c m M news s u v Q E ok st hu hv q
  cases hu; cases hv
  exact mod_int_or rfl (fun e => absurd e h0) (fun _ => q _ _ _ _ news st Sub.rfl' rfl (.int _ _))
theorem Do2.addL {l k : List AV} (hs : l.length + k.length ≤ 1000) : Do2 w d (.lst l) (.lst k) (fun u v => binaryOp .Add u v) (· = .lst (l ++ k)) := by
  intro c m M news s u v Q E ok st hu hv q
  cases hu with | lst h1 a1 => cases hv with | lst h2 a2 =>
  refine kmk_add_lit st.F st.N (st.list h1) (st.list h2) rfl (fun D h' F' N' lt => ?_) (by rw [a1.length, a2.length, sizeLine_eq]; omega)
  exact q _ _ _ _ _ (st.push F' N' lt) Sub.cons' rfl (.lst (.head _) ((a1.app a2).up Sub.cons'))
-- comparisons
theorem Ev.cmp {l r : PySem.Expr} {op : CmpOp} {pos : Pos} {a b : AV} {P : AV → Prop} (h1 : Ev w d kd ρ l (· = a)) (h2 : Ev w d kd ρ r (· = b)) (ho : Do2 w d a b (fun u v => compareOp op u v) P) (k : behindInMarks op r = false := by with_unfolding_all rfl) : Ev w d kd ρ (.Compare l [op] [r] pos) P := fun c env m M news s Q E ok st se q =>
  wpAny_Compare1 (h1 c env m M news s _ E ok st se fun u a h' tk' n' st' sb p i => h2 c env m M n' _ _ E ok st' (se.up sb) fun v b h2 tk2 n2 st2 sb2 p2 i2 => by
    subst p; subst p2
    exact ho c m M n2 _ u v Q E ok st2 (i.up sb2) i2 fun v a h3 tk3 n3 st3 sb3 => q v a h3 tk3 n3 st3 ((sb.tr sb2).tr sb3)) k
theorem Ts.cmp {l r : PySem.Expr} {op : CmpOp} {pos : Pos} {a b : AV} {t : Bool} (h1 : Ev w d kd ρ l (· = a)) (h2 : Ev w d kd ρ r (· = b)) (ho : Do2 w d a b (fun u v => compareOp op u v) (· = .bool t)) (k : behindInMarks op r = false := by with_unfolding_all rfl) : Ts w d kd ρ (.Compare l [op] [r] pos) (· = t) := fun c env m M news s Q E ok st se q =>
  wpAny_isTrue_Compare1 (h1 c env m M news s _ E ok st se fun u a h' tk' n' st' sb p i => h2 c env m M n' _ _ E ok st' (se.up sb) fun v b h2 tk2 n2 st2 sb2 p2 i2 => by
    subst p; subst p2
    exact ho c m M n2 _ u v _ E ok st2 (i.up sb2) i2 fun v a h3 tk3 n3 st3 sb3 p3 i3 => by
      subst p3
      cases i3
      exact wpAny_truthy_bool (q t h3 tk3 n3 st3 ((sb.tr sb2).tr sb3) rfl)) k
theorem Do2.eqi {i j : Int} : Do2 w d (.int i) (.int j) (fun u v => compareOp .Eq u v) (· = .bool (i == j)) := by
  intro c m M news s u v Q E ok st hu hv q
  cases hu; cases hv
  exact eq_int (q _ _ _ _ news st Sub.rfl' rfl (.bool _))
theorem Do2.nei {i j : Int} : Do2 w d (.int i) (.int j) (fun u v => compareOp .NotEq u v) (· = .bool (i != j)) := by
  intro c m M news s u v Q E ok st hu hv q
  cases hu; cases hv
  exact ne_int (q _ _ _ _ news st Sub.rfl' rfl (.bool _))
theorem Do2.lti {i j : Int} : Do2 w d (.int i) (.int j) (fun u v => compareOp .Lt u v) (· = .bool (decide (i < j))) := by
  intro c m M news s u v Q E ok st hu hv q
  cases hu; cases hv
  exact lt_int (q _ _ _ _ news st Sub.rfl' rfl (.bool _))
theorem Do2.gti {i j : Int} : Do2 w d (.int i) (.int j) (fun u v => compareOp .Gt u v) (· = .bool (decide (i > j))) := by
  intro c m M news s u v Q E ok st hu hv q
  cases hu; cases hv
  exact gt_int (q _ _ _ _ news st Sub.rfl' rfl (.bool _))
theorem Do2.gei {i j : Int} : Do2 w d (.int i) (.int j) (fun u v => compareOp .GtE u v) (· = .bool (decide (i ≥ j))) := by
  intro c m M news s u v Q E ok st hu hv q
  cases hu; cases hv
  exact ge_int (q _ _ _ _ news st Sub.rfl' rfl (.bool _))
theorem Do2.eqs {x y : Str} : Do2 w d (.str x) (.str y) (fun u v => compareOp .Eq u v) (· = .bool (x == y)) := by
  intro c m M news s u v Q E ok st hu hv q
  cases hu; cases hv
  exact eq_str (q _ _ _ _ news st Sub.rfl' rfl (.bool _))
-- tests
theorem Ts.plain {e : PySem.Expr} {b : Bool} (h : Ev w d kd ρ e (· = .bool b)) (k : ∀ env (whole : Sem Value), isTrue e env whole = (do let v ← whole; standAt e.pos; holding [v] (truthy v)) := by intro _ _; with_unfolding_all rfl) : Ts w d kd ρ e (· = b) := fun c env m M news s Q E ok st se q =>
  isTrue_plain (h c env m M news s _ E ok st se fun u a h' tk' n' st' sb p i => by
    subst p; cases i
    exact wpAny_truthy_bool (q _ _ _ _ st' sb rfl)) (k env _)
theorem Ts.not {e : PySem.Expr} {pos : Pos} {b : Bool} (h : Ts w d kd ρ e (· = b)) : Ts w d kd ρ (.UnaryOp .Not e pos) (· = !b) := fun c env m M news s Q E ok st se q =>
  isTrue_not (h c env m M news s _ E ok st se fun b' h' tk' n' st' sb p => q _ _ _ _ st' sb (by rw [p]))
/-- the rest of an «or», of an «and» -/
noncomputable def TsB (w : World) (d : Nat) (kd : Str → Option NameKind) (ρ : List (Str × AV)) (op : BoolOp) (es : List PySem.Expr) (P : Bool → Prop) : Prop :=
  ∀ (pos : Pos) (c : Ctx) (env : Env) (m : Str → Option Value) (M news : Led) (s : Shared) (whole : Sem Value) (Q : Bool → Shared → Prop) (E : Value → Shared → Prop), c.Ok w d → St c m M news s.heap → Sees w kd ρ env c m M news →
    (∀ b h' tk' news', St c m M news' h' → Sub news news' → P b → Q b { s with heap := h', toks := tk' }) → wpAny (model Pr w) c.A (isTrue (.BoolOp op es pos) env whole) Q E s
theorem TsB.or_nil : TsB w d kd ρ .Or [] (· = false) := fun pos c env m M news s whole Q E ok st se q => isTrue_or_nil (q _ _ _ news st Sub.rfl' rfl)
theorem TsB.and_nil : TsB w d kd ρ .And [] (· = true) := fun pos c env m M news s whole Q E ok st se q => isTrue_and_nil (q _ _ _ news st Sub.rfl' rfl)
theorem TsB.or {e : PySem.Expr} {es : List PySem.Expr} {P T : Bool → Prop} (h : Ts w d kd ρ e T) (ht : T true → P true) (hf : T false → TsB w d kd ρ .Or es P) : TsB w d kd ρ .Or (e :: es) P := fun pos c env m M news s whole Q E ok st se q =>
  isTrue_or (h c env m M news s _ E ok st se fun b' h' tk' n' st' sb p => by
    cases b' with
    | true => exact (if_pos rfl).mpr (q _ _ _ _ st' sb (ht p))
    | false => exact (if_neg (by simp)).mpr (hf p pos c env m M n' _ whole Q E ok st' (se.up sb) fun b h2 tk2 n2 st2 sb2 => q b h2 tk2 n2 st2 (sb.tr sb2)))
theorem TsB.and {e : PySem.Expr} {es : List PySem.Expr} {P T : Bool → Prop} (h : Ts w d kd ρ e T) (hf : T false → P false) (ht : T true → TsB w d kd ρ .And es P) : TsB w d kd ρ .And (e :: es) P := fun pos c env m M news s whole Q E ok st se q =>
  isTrue_and (h c env m M news s _ E ok st se fun b' h' tk' n' st' sb p => by
    cases b' with
    | false => exact (if_neg (by simp)).mpr (q _ _ _ _ st' sb (hf p))
    | true => exact (if_pos rfl).mpr (ht p pos c env m M n' _ whole Q E ok st' (se.up sb) fun b h2 tk2 n2 st2 sb2 => q b h2 tk2 n2 st2 (sb.tr sb2)))
theorem Ts.bool {op : BoolOp} {es : List PySem.Expr} {pos : Pos} {P : Bool → Prop} (h : TsB w d kd ρ op es P) : Ts w d kd ρ (.BoolOp op es pos) P := fun c env m M news s Q E ok st se q => h pos c env m M news s _ Q E ok st se q
theorem TsB.or_f {e : PySem.Expr} {es : List PySem.Expr} {P : Bool → Prop} (h : Ts w d kd ρ e (· = false)) (hs : TsB w d kd ρ .Or es P) : TsB w d kd ρ .Or (e :: es) P := .or h (fun e => by cases e) fun _ => hs
theorem TsB.or_t {e : PySem.Expr} {es : List PySem.Expr} (h : Ts w d kd ρ e (· = true)) : TsB w d kd ρ .Or (e :: es) (· = true) := .or h (fun _ => rfl) fun e => by cases e
end
theorem code_defCR {prog : Program} {w : World} {A₀ A : Around} {s : Shared} {base h₀ : Heap} {outer : List Env} {L : Addr} {m mg mb : Str → Option Value} {env : Env} {news : List (Addr × Obj)} {K : Frag} {p : Program} {loose : List Str} {mean : ExcName → Option Value}
    {R : Result → Shared → Prop} {name qual : Str} {params : Arguments} {body : List Stmt} {scope : Scope} {dV kV doc pm cdv ct oc : Value} {an od : Option Addr} {osl : Array (Option Value)} {f : Addr} {args : Args} {binds : List (Str × Value)}
    (B : Below A₀ base outer h₀) (F : Fr h₀ L s.heap m) (X₀ : K.In h₀) (N : News h₀ L s.heap news) (T : Top p loose mean mg mb h₀) (hA : A.frames = some (env :: outer)) (hf : env.frame = some L) (hke : env.scope.kind = .function)
    (ho : K.lookup f = some ⟨oc, od, .func (fnOf name qual params body scope dV kV doc pm an cdv ct), osl⟩) (hcd : codeIn K cdv qual = true) (hroom : A.depth < recursionLimit)
    (hbind : BindsTo s (fnOf name qual params body scope dV kV doc pm an cdv ct) args binds) (hkind : (binds.all fun y => scope.names.lookup y.1 == some .local || scope.names.lookup y.1 == some .cell) = true)
    (hnd : ((cellsFrom 0 scope.names []).map (·.1)).Nodup)
    (h : ∀ g L' h₁ tk cells, Fr h₀ L g m → Fr g L' h₁ (bindL (envOfC qual scope L' f cdv).kindOf binds fun _ => none) → News g L' h₁ (cells ++ news) →
      CellsAre (bindC (envOfC qual scope L' f cdv).kindOf binds fun _ => none) (cellsFrom (L' + 1) scope.names []) cells → Below A base (env :: outer) g → K.In g → Top p loose mean mg mb g → (∀ p ∈ news, p.1 < L') → (∀ b o, s.heap.get? b = some o → b ∉ news.map (·.1) → g.get? b = some o) →
      wpAny (model prog w) (A.deeper (envOfC qual scope L' f cdv)) (execs body (envOfC qual scope L' f cdv))
        (fun fl s' => LeaveK h₀ L m g R (match fl with | .ret v => v | _ => .none) s')
        (fun e s' => wpAny (model prog w) (A.deeper (envOfC qual scope L' f cdv)) (leaving (envOfC qual scope L' f cdv) e) (fun _ s'' => R (.error e) s'') (fun e' s'' => R (.error e') s'') s')
        { s with heap := h₁, toks := tk })
    (hco : scope.isCoroutine = false) (hgen : scope.isGenerator = false) (hk : scope.kind = .function) : codeAny (model prog w) A (.call (.ref f) args) R s := by
  have G := groundX (R := R) B F N hA hf hke
  have Xs := X₀.keeps F.keep
  have lt : ∀ q ∈ news, q.1 < s.heap.objs.size := fun q hq => Heap.lt_size (N q hq).1
  refine codeAny_call_function hroom (Xs _ _ ho) rfl hco hgen rfl (codeRec_of Xs hcd) (hbind _ _ _ _ ?_)
  refine wpAny_newFunctionEnv_cells hk (kindsX hkind _) fun env' he s' x => ?_
  subst he
  refine ⟨(T.nolimit.keeps F.keep).keeps x.toInCall.keep, codeAny_func ?_⟩
  obtain ⟨h₁, tk, rfl, _⟩ := x.done
  have kp := x.toInCall.keep
  obtain ⟨cells, NC, Y⟩ := Cl.news (h₀ := s.heap) (Nat.le_refl _) fun n c hm => ⟨x.cell n c (lookup_of_mem_nodup (cellsFrom_names scope.names 0 (s.heap.objs.size + 1) [] [] rfl ▸ hnd) hm), x.above n c hm⟩
  have all : News (hideAll s.heap (news.map (·.1))) s.heap.objs.size h₁ (cells ++ news) := by
    intro q hq
    rcases List.mem_append.mp hq with hq | hq
    · refine ⟨(NC q hq).1, (NC q hq).2.1, ?_⟩
      rcases hz : (hideAll s.heap (news.map (·.1))).get? q.1 with _ | o
      · exact hz
      · exact absurd ((of_hideAll _ hz).symm.trans (NC q hq).2.2) (by simp)
    · exact ⟨kp _ _ (N q hq).1, Nat.ne_of_lt (lt q hq), hideAll_none _ (List.mem_map_of_mem hq)⟩
  have fr : Fr (hideAll s.heap (news.map (·.1))) s.heap.objs.size h₁ _ := ⟨x.toInCall.ns, fun b o e => kp b o (of_hideAll _ e), Nat.le_of_eq (hideAll_size _ _)⟩
  exact wpAny_mono (h _ s.heap.objs.size h₁ tk cells G.1 fr all Y G.2.1 (X₀.keeps G.2.2.1) (T.keeps G.2.2.1) lt (fun b o e hn => hideAll_get _ e hn)) (fun fl s' => G.2.2.2 _ s') (fun _ _ y => y)
/- statements, defs -/
section
variable {w : World} {d : Nat} {kd : Str → Option NameKind} {ρ : List (Str × AV)}
/-- the names and cells of a def's frame -/
structure Loc (w : World) (kd : Str → Option NameKind) (ρ : List (Str × AV)) (c : Ctx) (m : Str → Option Value) (M news : Led) : Prop where
  kof : c.env.kindOf = kd
  nm : ∀ x a, Lk ρ x a → (kd x = some .local ∧ ∃ v, m x = some v ∧ Is w news v a) ∨ (kd x = some .cell ∧ ∃ q o v, c.cl.lookup x = some q ∧ (q, o) ∈ M ∧ o.data = .cell (some v) ∧ Is w news v a)
  ap : ∀ x y q, c.cl.lookup x = some q → c.cl.lookup y = some q → x = y
  nd : ∀ x q, c.cl.lookup x = some q → ∃ own o rest v₀, M = own ++ (q, o) :: rest ∧ o.data = .cell v₀ ∧ (∀ p ∈ own, p.1 ≠ q) ∧ ∀ p ∈ rest, p.1 ≠ q
  hc : ∀ x, kd x = some .cell → (c.cl.lookup x).isSome = true
theorem Loc.sees {c : Ctx} {m : Str → Option Value} {M news : Led} (x : Loc w kd ρ c m M news) (hk : c.cs.kind = .function) : Sees w kd ρ c.env c m M news := ⟨x.kof, hk, rfl, rfl, m, fun _ F _ => F.ns, x.nm⟩
theorem Loc.up {c : Ctx} {m : Str → Option Value} {M news news' : Led} (x : Loc w kd ρ c m M news) (k : Sub news news') : Loc w kd ρ c m M news' := ⟨x.kof, fun y a h => (x.nm y a h).imp (fun ⟨p, v, e, i⟩ => ⟨p, v, e, i.up k⟩) fun ⟨p, b, o, v, e1, e2, e3, i⟩ => ⟨p, b, o, v, e1, e2, e3, i.up k⟩, x.ap, x.nd, x.hc⟩
theorem Loc.setL {c : Ctx} {m : Str → Option Value} {M news : Led} {x : Str} {v : Value} {a : AV} (l : Loc w kd ρ c m M news) (hl : kd x = some .local) (i : Is w news v a) : Loc w kd ((x, a) :: ρ) c (fun y => if y = x then some v else m y) M news := ⟨l.kof, fun y b h => by
  cases h with
  | hd => exact .inl ⟨hl, v, if_pos rfl, i⟩
  | tl hn h =>
    rcases l.nm y b h with ⟨p, u, e, j⟩ | z
    · exact .inl ⟨p, u, (if_neg fun q => by rw [q] at hn; simp at hn).trans e, j⟩
    · exact .inr z, l.ap, l.nd, l.hc⟩
/-- what changes keeps its places; what is no cell of the frame stays as it is -/
noncomputable def Mv (c : Ctx) : Led → Led → Prop
  | [], [] => True
  | p :: r, q :: t => p.1 = q.1 ∧ ((∀ x, c.cl.lookup x ≠ some p.1) → p = q) ∧ Mv c r t
  | _, _ => False
theorem Mv.rfl' {c : Ctx} : ∀ {M : Led}, Mv c M M
  | [] => trivial
  | _ :: _ => ⟨rfl, fun _ => rfl, Mv.rfl'⟩
theorem Mv.tr {c : Ctx} : ∀ {M M' M'' : Led}, Mv c M M' → Mv c M' M'' → Mv c M M''
  | [], [], [], _, _ => trivial
  | _ :: _, _ :: _, _ :: _, ⟨a, b, r⟩, ⟨a', b', r'⟩ => ⟨a.trans a', fun h => (b h).trans (b' fun x => a ▸ h x), Mv.tr r r'⟩
  | [], _ :: _, _, h, _ => h.elim
  | _ :: _, [], _, h, _ => h.elim
  | [], [], _ :: _, _, h => h.elim
  | _ :: _, _ :: _, [], _, h => h.elim
theorem Mv.split {c : Ctx} : ∀ {a M X : Led}, Mv c (a ++ M) X → (∀ p ∈ a, ∀ x, c.cl.lookup x ≠ some p.1) → ∃ M', X = a ++ M' ∧ Mv c M M'
  | [], _, X, h, _ => ⟨X, rfl, h⟩
  | p :: a, M, q :: X, ⟨e, b, r⟩, k => by
    obtain ⟨M', e', r'⟩ := Mv.split r fun p hp => k p (.tail _ hp)
    have := b (k p (.head _))
    subst this
    exact ⟨M', by rw [e']; rfl, r'⟩
  | _ :: _, _, [], h, _ => h.elim
theorem Mv.addr {c : Ctx} : ∀ {M M' : Led}, Mv c M M' → M.map (·.1) = M'.map (·.1)
  | [], [], _ => rfl
  | _ :: _, _ :: _, ⟨a, _, r⟩ => by rw [List.map_cons, List.map_cons, a, Mv.addr r]
  | [], _ :: _, h => h.elim
  | _ :: _, [], h => h.elim
theorem Mv.set {c : Ctx} {q : Addr} {o o' : Obj} {x : Str} (h : c.cl.lookup x = some q) : ∀ {own rest : Led}, Mv c (own ++ (q, o) :: rest) (own ++ (q, o') :: rest)
  | [], _ => ⟨rfl, fun k => absurd h (k x), Mv.rfl'⟩
  | _ :: _, _ => ⟨rfl, fun _ => rfl, Mv.set h⟩
/-- statements: go on with names of N, or give a tree of R -/
noncomputable def Ex (w : World) (d : Nat) (kd : Str → Option NameKind) (ρ : List (Str × AV)) (sts : List Stmt) (N : List (Str × AV) → Prop) (R : AV → Prop) : Prop :=
  ∀ (c : Ctx) (m : Str → Option Value) (M news : Led) (s : Shared) (Q : Flow → Shared → Prop) (E : Value → Shared → Prop), c.Ok w d → PassesOwn (model Pr w) c.A c.env E → St c m M news s.heap → Loc w kd ρ c m M news →
    (∀ ρ' m' M' h' tk' news', St c m' M' news' h' → Loc w kd ρ' c m' M' news' → Mv c M M' → Sub news news' → N ρ' → Q .next { s with heap := h', toks := tk' }) →
    (∀ v a m' M' h' tk' news', St c m' M' news' h' → Sub news news' → R a → Is w news' v a → Q (.ret v) { s with heap := h', toks := tk' }) → wpAny (model Pr w) c.A (execs sts c.env) Q E s
noncomputable def Ex1 (w : World) (d : Nat) (kd : Str → Option NameKind) (ρ : List (Str × AV)) (st : Stmt) (N : List (Str × AV) → Prop) (R : AV → Prop) : Prop :=
  ∀ (c : Ctx) (m : Str → Option Value) (M news : Led) (s : Shared) (Q : Flow → Shared → Prop) (E : Value → Shared → Prop), c.Ok w d → PassesOwn (model Pr w) c.A c.env E → St c m M news s.heap → Loc w kd ρ c m M news →
    (∀ ρ' m' M' h' tk' news', St c m' M' news' h' → Loc w kd ρ' c m' M' news' → Mv c M M' → Sub news news' → N ρ' → Q .next { s with heap := h', toks := tk' }) →
    (∀ v a m' M' h' tk' news', St c m' M' news' h' → Sub news news' → R a → Is w news' v a → Q (.ret v) { s with heap := h', toks := tk' }) → wpAny (model Pr w) c.A (exec st c.env) Q E s
theorem Ex.nil {N : List (Str × AV) → Prop} {R : AV → Prop} (h : N ρ) : Ex w d kd ρ [] N R := fun c m M news s Q E ok ow st lo q r => wpAny_execs_nil (q ρ m M _ _ news st lo Mv.rfl' Sub.rfl' h)
theorem Ex.cons {st : Stmt} {sts : List Stmt} {N N' : List (Str × AV) → Prop} {R : AV → Prop} (h : Ex1 w d kd ρ st N' R) (k : ∀ ρ', N' ρ' → Ex w d kd ρ' sts N R) : Ex w d kd ρ (st :: sts) N R := fun c m M news s Q E ok ow st lo q r =>
  wpAny_execs_cons (h c m M news s _ E ok ow st lo (fun ρ' m' M' h' tk' n' st' lo' mv sb hn => k ρ' hn c m' M' n' _ Q E ok ow st' lo' (fun ρ2 m2 M2 h2 tk2 n2 st2 lo2 mv2 sb2 => q ρ2 m2 M2 h2 tk2 n2 st2 lo2 (mv.tr mv2) (sb.tr sb2)) fun v a m2 M2 h2 tk2 n2 st2 sb2 => r v a m2 M2 h2 tk2 n2 st2 (sb.tr sb2)) r)
theorem Ex.consD {st : Stmt} {sts : List Stmt} {ρ' : List (Str × AV)} {N : List (Str × AV) → Prop} {R : AV → Prop} (h : Ex1 w d kd ρ st (· = ρ') R) (k : Ex w d kd ρ' sts N R) : Ex w d kd ρ (st :: sts) N R := .cons h fun _ e => e ▸ k
theorem Ex.last {st : Stmt} {sts : List Stmt} {N : List (Str × AV) → Prop} {R : AV → Prop} (h : Ex1 w d kd ρ st (fun _ => False) R) : Ex w d kd ρ (st :: sts) N R := .cons h fun _ e => e.elim
theorem Ex1.imp {st : Stmt} {N N' : List (Str × AV) → Prop} {R R' : AV → Prop} (h : Ex1 w d kd ρ st N R) (k : ∀ ρ, N ρ → N' ρ) (k' : ∀ a, R a → R' a) : Ex1 w d kd ρ st N' R' := fun c m M news s Q E ok ow st lo q r =>
  h c m M news s Q E ok ow st lo (fun ρ' m' M' h' tk' n' st' lo' mv sb hn => q ρ' m' M' h' tk' n' st' lo' mv sb (k _ hn)) fun v a m' M' h' tk' n' st' sb hr => r v a m' M' h' tk' n' st' sb (k' _ hr)
theorem Ex.imp {st : List Stmt} {N N' : List (Str × AV) → Prop} {R R' : AV → Prop} (h : Ex w d kd ρ st N R) (k : ∀ ρ, N ρ → N' ρ) (k' : ∀ a, R a → R' a) : Ex w d kd ρ st N' R' := fun c m M news s Q E ok ow st lo q r =>
  h c m M news s Q E ok ow st lo (fun ρ' m' M' h' tk' n' st' lo' mv sb hn => q ρ' m' M' h' tk' n' st' lo' mv sb (k _ hn)) fun v a m' M' h' tk' n' st' sb hr => r v a m' M' h' tk' n' st' sb (k' _ hr)
theorem Ex1.ret {e : PySem.Expr} {pos : Pos} {P : AV → Prop} {N : List (Str × AV) → Prop} {R : AV → Prop} (h : Ev w d kd ρ e P) (k : ∀ a, P a → R a) : Ex1 w d kd ρ (.Return (some e) pos) N R := fun c m M news s Q E ok ow st lo q r =>
  wpAny_Return_some (h c c.env m M news s _ E ok st (lo.sees ok.hk) fun v a h' tk' n' st' sb p i => r v a m M h' tk' n' st' sb (k a p) i)
theorem Ex1.retD {e : PySem.Expr} {pos : Pos} {a : AV} {N : List (Str × AV) → Prop} {R : AV → Prop} (h : Ev w d kd ρ e (· = a)) (k : R a) : Ex1 w d kd ρ (.Return (some e) pos) N R := .ret h fun _ e => e ▸ k
theorem Ex1.set {x : Str} {px pos : Pos} {e : PySem.Expr} {a : AV} {R : AV → Prop} (h : Ev w d kd ρ e (· = a)) (hl : kd x = some .local := by kernel_rfl) (k : ∀ env, swapsWith e (some (PySem.Expr.Name x px)) pos.line env = pure false := by intro _; with_unfolding_all rfl) : Ex1 w d kd ρ (.Assign [.Name x px] e pos) (· = (x, a) :: ρ) R := fun c m M news s Q E ok ow st lo q r =>
  wpAny_Assign_Name (h c c.env m M news s _ E ok st (lo.sees ok.hk) fun v a' h' tk' n' st' sb p i => by
    subst p
    exact storeX_L st'.F st'.N (fun h2 F2 N2 => q _ _ _ _ _ _ ⟨F2, N2, st'.A⟩ ((lo.up sb).setL hl i) Mv.rfl' sb rfl) ok.hk (by rw [lo.kof]; exact hl)) (k _)
theorem Ex1.ife {t : PySem.Expr} {body orelse : List Stmt} {pos : Pos} {N : List (Str × AV) → Prop} {R : AV → Prop} {P : Bool → Prop} (h : Ts w d kd ρ t P) (hb : P true → Ex w d kd ρ body N R) (he : P false → Ex w d kd ρ orelse N R) : Ex1 w d kd ρ (.If t body orelse pos) N R := fun c m M news s Q E ok ow st lo q r =>
  wpAny_If (h c c.env m M news s _ E ok st (lo.sees ok.hk) fun b h' tk' n' st' sb p => by
    cases b with
    | true => exact (if_pos rfl).mpr (hb p c m M n' _ Q E ok ow st' (lo.up sb) (fun ρ2 m2 M2 h2 tk2 n2 st2 lo2 mv2 sb2 => q ρ2 m2 M2 h2 tk2 n2 st2 lo2 mv2 (sb.tr sb2)) fun v a m2 M2 h2 tk2 n2 st2 sb2 => r v a m2 M2 h2 tk2 n2 st2 (sb.tr sb2))
    | false => exact (if_neg (by simp)).mpr (he p c m M n' _ Q E ok ow st' (lo.up sb) (fun ρ2 m2 M2 h2 tk2 n2 st2 lo2 mv2 sb2 => q ρ2 m2 M2 h2 tk2 n2 st2 lo2 mv2 (sb.tr sb2)) fun v a m2 M2 h2 tk2 n2 st2 sb2 => r v a m2 M2 h2 tk2 n2 st2 (sb.tr sb2)))
theorem Ex1.ift {t : PySem.Expr} {body orelse : List Stmt} {pos : Pos} {N : List (Str × AV) → Prop} {R : AV → Prop} (h : Ts w d kd ρ t (· = true)) (hb : Ex w d kd ρ body N R) : Ex1 w d kd ρ (.If t body orelse pos) N R := .ife h (fun _ => hb) fun e => by cases e
theorem Ex1.iff {t : PySem.Expr} {body orelse : List Stmt} {pos : Pos} {N : List (Str × AV) → Prop} {R : AV → Prop} (h : Ts w d kd ρ t (· = false)) (hb : Ex w d kd ρ orelse N R) : Ex1 w d kd ρ (.If t body orelse pos) N R := .ife h (fun e => by cases e) fun _ => hb
theorem Ev.ife {t a b : PySem.Expr} {pos : Pos} {P : AV → Prop} {T : Bool → Prop} (h : Ts w d kd ρ t T) (ha : T true → Ev w d kd ρ a P) (hb : T false → Ev w d kd ρ b P) : Ev w d kd ρ (.IfExp t a b pos) P := fun c env m M news s Q E ok st se q =>
  IfExp_ (h c env m M news s _ E ok st se fun b h' tk' n' st' sb p => by
    cases b with
    | true => exact (if_pos rfl).mpr (ha p c env m M n' _ Q E ok st' (se.up sb) fun v a h2 tk2 n2 st2 sb2 => q v a h2 tk2 n2 st2 (sb.tr sb2))
    | false => exact (if_neg (by simp)).mpr (hb p c env m M n' _ Q E ok st' (se.up sb) fun v a h2 tk2 n2 st2 sb2 => q v a h2 tk2 n2 st2 (sb.tr sb2)))
theorem Ev.ifeT {t a b : PySem.Expr} {pos : Pos} {P : AV → Prop} (h : Ts w d kd ρ t (· = true)) (ha : Ev w d kd ρ a P) : Ev w d kd ρ (.IfExp t a b pos) P := .ife h (fun _ => ha) fun e => by cases e
theorem Ev.ifeF {t a b : PySem.Expr} {pos : Pos} {P : AV → Prop} (h : Ts w d kd ρ t (· = false)) (hb : Ev w d kd ρ b P) : Ev w d kd ρ (.IfExp t a b pos) P := .ife h (fun e => by cases e) fun _ => hb

-- a def entered
theorem cf_ge : ∀ (names : List (Str × NameKind)) (n : Nat) (acc : List (Str × Addr)) (p : Str × Addr), p ∈ cellsFrom n names acc → n ≤ p.2 ∨ p ∈ acc
  | [], _, _, _, h => .inr h
  | (x, k) :: r, n, acc, p, h => by
    unfold cellsFrom at h
    split at h
    · rcases cf_ge r (n + 1) _ p h with q | q
      · exact .inl (by omega)
      · rcases List.mem_cons.mp q with rfl | q
        · exact .inl (Nat.le_refl _)
        · exact .inr q
    · exact cf_ge r n acc p h
theorem cf_ap : ∀ (names : List (Str × NameKind)) (n : Nat) (acc : List (Str × Addr)), (∀ p ∈ acc, p.2 < n) → acc.Pairwise (fun x y => x.2 ≠ y.2) → (cellsFrom n names acc).Pairwise (fun x y => x.2 ≠ y.2)
  | [], _, _, _, h => h
  | (x, k) :: r, n, acc, lt, h => by
    unfold cellsFrom
    split
    · refine cf_ap r (n + 1) _ (fun p hp => ?_) (List.Pairwise.cons (fun p hp => Nat.ne_of_gt (lt p hp)) h)
      rcases List.mem_cons.mp hp with rfl | hp
      · exact Nat.lt_succ_self _
      · exact Nat.lt_succ_of_lt (lt p hp)
    · exact cf_ap r n acc lt h
theorem ca_split {cm : Str → Option Value} : ∀ {cl : List (Str × Addr)} {cells : Led}, CellsAre cm cl cells → cl.Pairwise (fun x y => x.2 ≠ y.2) → ∀ {x : Str} {q : Addr}, cl.lookup x = some q →
    ∃ own o rest, cells = own ++ (q, o) :: rest ∧ o.data = .cell (cm x) ∧ (∀ p ∈ own, p.1 ≠ q) ∧ ∀ p ∈ rest, p.1 ≠ q
  | _, _, .nil, _, _, _, e => nomatch e
  | _, _, .cons (n := n) (c := b) (o := o) (cs := cs) (cells := r) ho y, pw, x, q, e => by
    have addr : ∀ {cs : List (Str × Addr)} {r : Led}, CellsAre cm cs r → ∀ p ∈ r, ∃ z ∈ cs, z.2 = p.1 := by
      intro cs r y
      induction y with
      | nil => exact fun p hp => nomatch hp
      | cons h y ih =>
        intro p hp
        rcases List.mem_cons.mp hp with rfl | hp
        · exact ⟨_, .head _, rfl⟩
        · obtain ⟨z, hz, e⟩ := ih p hp; exact ⟨z, .tail _ hz, e⟩
    obtain ⟨h1, h2⟩ := List.pairwise_cons.mp pw
    rw [List.lookup_cons] at e
    cases hx : x == n with
    | true =>
      rw [hx] at e; cases e
      have : x = n := by simpa using hx
      subst this
      exact ⟨[], o, r, rfl, ho, (fun p hp => by cases hp), (fun p hp => by obtain ⟨z, hz, e⟩ := addr y p hp; rw [← e]; exact (h1 z hz).symm)⟩
    | false =>
      rw [hx] at e
      obtain ⟨own, o', rest, er, hd, k1, k2⟩ := ca_split y h2 e
      refine ⟨(b, o) :: own, o', rest, by rw [er]; rfl, hd, fun p hp => ?_, k2⟩
      rcases List.mem_cons.mp hp with rfl | hp
      · exact h1 _ (mem_of_lookup e)
      · exact k1 p hp
theorem ca_addr {cm : Str → Option Value} {cl : List (Str × Addr)} {cells : Led} (y : CellsAre cm cl cells) : ∀ p ∈ cells, ∃ z ∈ cl, z.2 = p.1 := by
  induction y with
  | nil => exact fun p hp => nomatch hp
  | cons h y ih =>
    intro p hp
    rcases List.mem_cons.mp hp with rfl | hp
    · exact ⟨_, .head _, rfl⟩
    · obtain ⟨z, hz, e⟩ := ih p hp; exact ⟨z, .tail _ hz, e⟩
theorem bl_off {k : Str → Option NameKind} {x : Str} : ∀ (b : List (Str × Value)) (m : Str → Option Value), (∀ p ∈ b, p.1 ≠ x) → bindL k b m x = m x
  | [], _, _ => rfl
  | (y, v) :: r, m, h => by
    unfold bindL
    rw [bl_off r _ fun p hp => h p (.tail _ hp)]
    split
    · exact if_neg (h (y, v) (.head _)).symm
    · rfl
theorem bc_off {k : Str → Option NameKind} {x : Str} : ∀ (b : List (Str × Value)) (m : Str → Option Value), (∀ p ∈ b, p.1 ≠ x) → bindC k b m x = m x
  | [], _, _ => rfl
  | (y, v) :: r, m, h => by
    unfold bindC
    rw [bc_off r _ fun p hp => h p (.tail _ hp)]
    split
    · rfl
    · exact if_neg (h (y, v) (.head _)).symm
theorem zip_fst {xs : List Str} {α : Type} : ∀ {vs : List α} {p : Str × α}, p ∈ xs.zip vs → p.1 ∈ xs := fun hp => (List.of_mem_zip hp).1
theorem binds_lk {led : Led} {k : Str → Option NameKind} : ∀ {xs : List Str} {vs : List Value} {l : List AV} {x : Str} {a : AV} (m cm : Str → Option Value), xs.Nodup → Alls w led vs l → Lk (xs.zip l) x a →
    ∃ v, Is w led v a ∧ (k x = some .local → bindL k (xs.zip vs) m x = some v) ∧ (k x ≠ some .local → bindC k (xs.zip vs) cm x = some v)
  | [], _, _, _, _, _, _, _, _, h => nomatch h
  | y :: xs, _, _, _, _, _, _, _, .nil, h => nomatch h
  | y :: xs, v :: vs, b :: l, x, a, m, cm, nd, .cons hv hs, h => by
    obtain ⟨hn, nd⟩ := List.nodup_cons.mp nd
    cases h with
    | hd =>
      refine ⟨v, hv, fun kx => ?_, fun kx => ?_⟩
      · show bindL k ((y, v) :: xs.zip vs) m y = _
        unfold bindL
        rw [bl_off (x := y) _ _ fun p hp q => hn (q ▸ zip_fst hp), if_pos kx]; exact if_pos rfl
      · show bindC k ((y, v) :: xs.zip vs) cm y = _
        unfold bindC
        rw [bc_off (x := y) _ _ fun p hp q => hn (q ▸ zip_fst hp), if_neg kx]; exact if_pos rfl
    | tl _ h => exact binds_lk (xs := xs) (vs := vs) (l := l) _ _ nd hs h
/-- a def: its body walked once -/
theorem Fn.of {f : Addr} {l : List AV} {P : AV → Prop} {name qual : Str} {params : Arguments} {body : List Stmt} {scope : Scope} {dV kV doc pm cdv ct oc : Value} {an od : Option Addr} {osl : Array (Option Value)}
    (ho : List.lookup f (hd.heap_39 w.params) = some ⟨oc, od, .func (fnOf name qual params body scope dV kV doc pm an cdv ct), osl⟩) (hcd : codeIn (hd.heap_39 w.params) cdv qual = true)
    (hb : ∀ (s : Shared) (vs : List Value), vs.length = l.length → BindsTo s (fnOf name qual params body scope dV kV doc pm an cdv ct) ⟨vs, []⟩ ((params.args.map (·.arg)).zip vs))
    (hx : ((params.args.map (·.arg)).all fun x => scope.names.lookup x == some .local || scope.names.lookup x == some .cell) = true) (hnx : (params.args.map (·.arg)).Nodup) (hnd : ((cellsFrom 0 scope.names []).map (·.1)).Nodup)
    (hco : scope.isCoroutine = false) (hgen : scope.isGenerator = false) (hkd : scope.kind = .function)
    (hbody : Ex w d (fun x => scope.names.lookup x) ((params.args.map (·.arg)).zip l) body (fun _ => P .none) P) : Fn w (d + 1) f l P := by
  generalize params.args.map (·.arg) = xs at hb hx hnx hbody
  intro c m M news s vs Q E ok st al q
  refine wpAny_call ?_
  have hkx : ∀ x ∈ xs, scope.names.lookup x = some .local ∨ scope.names.lookup x = some .cell := fun x hm => by simpa using List.all_eq_true.mp hx x hm
  refine code_defCR ok.B st.F ok.X (news_sub' st.N) ok.T rfl rfl ok.hk ho hcd (Nat.lt_of_le_of_lt (Nat.le_add_right _ _) ok.hd) (hb s vs al.length) (List.all_eq_true.mpr fun p hp => List.all_eq_true.mp hx _ (zip_fst hp)) hnd ?_ hco hgen hkd
  intro g L' h₁ tk cells FG F' N' Y B' X' T' lt hg
  have pw := cf_ap scope.names (L' + 1) [] (fun _ h => nomatch h) List.Pairwise.nil
  have ge : ∀ p ∈ cells, L' < p.1 := fun p hp => by
    obtain ⟨z, hz, e⟩ := ca_addr Y p hp
    rcases cf_ge _ _ _ z hz with h | h
    · rw [← e]; exact h
    · exact nomatch h
  let c' : Ctx := { dp := c.dp + 1, un := c.un + 3, gd := c.gd, cn := qual, cs := scope, L := L', a := f, ccd := cdv, cl := cellsFrom (L' + 1) scope.names [], outer := c.env :: c.outer, A₀ := c.A, base := c.base, h₀ := g, mean := c.mean, mg := c.mg, mb := c.mb }
  have ok' : c'.Ok w d := ⟨B', X', T', hkd, by have := ok.hd; show c.dp + 1 + d < _; omega, by have := ok.hu; show c.un + 3 + 8 * d + 100 < _; omega⟩
  have st' : St c' _ cells news h₁ := ⟨F', N', fun p hp y hy => Nat.ne_of_lt (Nat.lt_trans (lt p hp) (ge y hy))⟩
  have lo' : Loc w (fun x => scope.names.lookup x) (xs.zip l) c' (bindL (fun x => scope.names.lookup x) (xs.zip vs) fun _ => none) cells news := by
    refine ⟨rfl, fun x a hl => ?_, fun x y z e1 e2 => name_of_addr pw (mem_of_lookup e1) (mem_of_lookup e2), fun x z e => ?_, fun x k => cellsFrom_some scope.names (L' + 1) [] (.inl k)⟩
    · obtain ⟨v, i, k1, k2⟩ := binds_lk (k := fun x => scope.names.lookup x) (fun _ => none) (fun _ => none) hnx al hl
      have hm : x ∈ xs := hl.fst
      rcases hkx x hm with k | k
      · exact .inl ⟨k, v, k1 k, i⟩
      · have hc := cellsFrom_some scope.names (L' + 1) [] (.inl k)
        obtain ⟨z, e⟩ := Option.isSome_iff_exists.mp hc
        obtain ⟨own, o, rest, er, hdt, _⟩ := ca_split Y pw e
        exact .inr ⟨k, z, o, v, e, by rw [er]; exact List.mem_append_right _ (.head _), hdt.trans (congrArg Data.cell (k2 (by show scope.names.lookup x ≠ _; rw [k]; decide))), i⟩
    · obtain ⟨own, o, rest, er, hdt, h1, h2⟩ := ca_split Y pw e
      exact ⟨own, o, rest, _, er, hdt, h1, h2⟩
  have fin : ∀ (v : Value) (a : AV) (m' : Str → Option Value) (M' : Led) (h' : Heap) (tk' : Nat) (n' : Led), St c' m' M' n' h' → Sub news n' → P a → Is w n' v a → LeaveK c.h₀ c.L m g (fun r s' => match r with | .ok (.ret v) => Q v s' | .ok _ => False | .error e => E e s') v { s with heap := h', toks := tk' } := fun v a m' M' h' tk' n' st2 sb p i => by
    refine leaveK_ st2.F st2.N fun F2 N2 => ?_
    have key : ∀ y ∈ M, h'.get? y.1 = some y.2 ∧ g.get? y.1 = some y.2 := fun y hy => by
      have e := hg _ _ (st.N y (List.mem_append_left _ hy)).1 fun hm => by
        obtain ⟨z, hz, e⟩ := List.mem_map.mp hm
        exact st.A z hz y hy e
      exact ⟨st2.F.keep _ _ e, e⟩
    refine q v a h' tk' n' ⟨F2, fun y hy => ?_, fun x hx y hy e => ?_⟩ sb p i
    · rcases List.mem_append.mp hy with hy | hy
      · exact ⟨(key y hy).1, (st.N y (List.mem_append_left _ hy)).2⟩
      · exact N2 y (List.mem_append_right _ hy)
    · have := (st2.N x (List.mem_append_right _ hx)).2.2
      rw [e, (key y hy).2] at this; cases this
  exact hbody c' _ cells news _ _ _ ok' PassesOwn.leaving st' lo' (fun ρ' m' M' h' tk' n' st2 _ _ sb p => fin .none .none m' M' h' tk' n' st2 sb p .none) fun v a m' M' h' tk' n' st2 sb p i => fin v a m' M' h' tk' n' st2 sb p i
end
/- calls, fields -/
section
variable {w : World} {d : Nat} {kd : Str → Option NameKind} {ρ : List (Str × AV)}
theorem Ev.call {x : Str} {p pos : Pos} {f : Addr} {e : PySem.Expr} {es : List PySem.Expr} {l : List AV} {P : AV → Prop} (hf : Ev w d kd ρ (.Name x p) (· = .val (.ref f))) (hk : keepIn (hd.heap_39 w.params) (.ref f) = true) (ha : Evs w d kd ρ (e :: es) (· = l)) (hF : Fn w d f l P)
    (k1 : ∀ env, starEach (e :: es) env = (false, eval e env) :: starEach es env := by intro _; with_unfolding_all rfl) (k2 : ∀ env, ((backTo pos (starEach es env)).any fun x => x.1) = false := by intro _; with_unfolding_all rfl) : Ev w d kd ρ (.Call (.Name x p) (e :: es) [] pos) P := fun c env m M news s Q E ok st se q =>
  Call_ (hf c env m M news s _ E ok st se fun v a h' tk' n' st' sb p i => by
    subst p
    cases i
    exact callWith_K (first := []) ok.X hk (ha pos c env m M n' _ _ E ok st' (se.up sb) fun vs l' h2 tk2 n2 st2 sb2 p2 al => ⟨ok.X.keeps st2.F.keep, by
      subst p2
      exact hF c m M n2 _ vs Q E ok st2 al fun v a h3 tk3 n3 st3 sb3 => q v a h3 tk3 n3 st3 ((sb.tr sb2).tr sb3)⟩) (k1 env) (k2 env))
theorem Ev.callB {x : Str} {p pos : Pos} {f : String} {e : PySem.Expr} {es : List PySem.Expr} {l : List AV} {P : AV → Prop} (hf : Ev w d kd ρ (.Name x p) (· = .val (.builtin f))) (ha : Evs w d kd ρ (e :: es) (· = l)) (hF : Do w d l (fun vs => PySem.call (.builtin f) vs) P)
    (k1 : ∀ env, starEach (e :: es) env = (false, eval e env) :: starEach es env := by intro _; with_unfolding_all rfl) (k2 : ∀ env, ((backTo pos (starEach es env)).any fun x => x.1) = false := by intro _; with_unfolding_all rfl) : Ev w d kd ρ (.Call (.Name x p) (e :: es) [] pos) P := fun c env m M news s Q E ok st se q =>
  Call_ (hf c env m M news s _ E ok st se fun v a h' tk' n' st' sb p i => by
    subst p
    cases i
    exact callWith_builtin1 (ha pos c env m M n' _ _ E ok st' (se.up sb) fun vs l' h2 tk2 n2 st2 sb2 p2 al => by
      subst p2
      exact hF c m M n2 _ vs Q E ok st2 al fun v a h3 tk3 n3 st3 sb3 => q v a h3 tk3 n3 st3 ((sb.tr sb2).tr sb3)) (k1 env) (k2 env))
theorem Ev.callT {x : Str} {p pos : Pos} {f : String} {e : PySem.Expr} {es : List PySem.Expr} {l : List AV} {P : AV → Prop} (hf : Ev w d kd ρ (.Name x p) (· = .val (.type f))) (ha : Evs w d kd ρ (e :: es) (· = l)) (hF : Do w d l (fun vs => PySem.call (.type f) vs) P)
    (k1 : ∀ env, starEach (e :: es) env = (false, eval e env) :: starEach es env := by intro _; with_unfolding_all rfl) (k2 : ∀ env, ((backTo pos (starEach es env)).any fun x => x.1) = false := by intro _; with_unfolding_all rfl) : Ev w d kd ρ (.Call (.Name x p) (e :: es) [] pos) P := fun c env m M news s Q E ok st se q =>
  Call_ (hf c env m M news s _ E ok st se fun v a h' tk' n' st' sb p i => by
    subst p
    cases i
    exact PySem.Pv.callWith_type1 (ha pos c env m M n' _ _ E ok st' (se.up sb) fun vs l' h2 tk2 n2 st2 sb2 p2 al => by
      subst p2
      exact hF c m M n2 _ vs Q E ok st2 al fun v a h3 tk3 n3 st3 sb3 => q v a h3 tk3 n3 st3 ((sb.tr sb2).tr sb3)) (k1 env) (k2 env))
theorem getL_off2 {name x y : Str} {h1 h2 : Int} {t1 t2 : Tok} {v1 v2 : Value} (e1 : (x == name) = false) (e2 : (y == name) = false) : getL name [⟨h1, .str x t1, v1⟩, ⟨h2, .str y t2, v2⟩] = some none := by
  simp only [getL, List.find?, Value.isStr, e1, e2]
  rfl
/-- a class's method, looked up -/
noncomputable def Mt (w : World) (a : AV) (name : Str) (f : Addr) : Prop :=
  ∀ (c : Ctx) (m : Str → Option Value) (M news : Led) (s : Shared) (v : Value) (pl : Sem Bool) (Q : Value × List Value → Shared → Prop) (E : Value → Shared → Prop), (hd.heap_39 w.params).In c.h₀ → St c m M news s.heap → Is w news v a → Q (.ref f, [v]) s → wpAny (model Pr w) c.A (getMethod v name pl) Q E s
theorem Mt.dec {x : Int} {name : Str} {f : Addr} (h1 : plainGet (hd.heap_39 w.params) 155 name = true) (h2 : findIn (hd.heap_39 w.params) (.ref 155) name = some (some (.ref f))) (h3 : isFn (hd.heap_39 w.params) (.ref f) = true) (h4 : (Str.ofString "top" == name) = false) (h5 : (Str.ofString "places" == name) = false) : Mt w (.dec x) name f := by
  intro c m M news s v pl Q E X st i q
  cases i with | dec g1 g2 =>
  refine method_inst st.F X (InstAt.of_news st.N (st.mem g1) (st.mem g2)) h1 h2 h3 ?_ q
  exact getL_off2 h4 h5
theorem Ev.meth {o e : PySem.Expr} {es : List PySem.Expr} {name : Str} {apos pos : Pos} {a : AV} {f : Addr} {l : List AV} {P : AV → Prop} (ho : Ev w d kd ρ o (· = a)) (hm : Mt w a name f) (hk : keepIn (hd.heap_39 w.params) (.ref f) = true) (ha : Evs w d kd ρ (e :: es) (· = l)) (hF : Fn w d f (a :: l) P)
    (k1 : ∀ env, starEach (e :: es) env = (false, eval e env) :: starEach es env := by intro _; with_unfolding_all rfl) (k2 : ∀ env, ((backTo pos (starEach es env)).any fun x => x.1) = false := by intro _; with_unfolding_all rfl)
    (k3 : ∀ env, ∃ pl, eval (.Call (.Attribute o name apos) (e :: es) [] pos) env = (do let ov ← eval o env; standAt apos.atName; let (f, first) ← holding [ov] (getMethod ov name pl); callWith pos f first (backTo pos (starEach (e :: es) env)) []) := by intro _; with_unfolding_all exact ⟨_, rfl⟩) : Ev w d kd ρ (.Call (.Attribute o name apos) (e :: es) [] pos) P := fun c env m M news s Q E ok st se q => by
  obtain ⟨pl, hk3⟩ := k3 env
  refine MethodCall_ (pl := pl) (ho c env m M news s _ E ok st se fun v a' h' tk' n' st' sb p i => ?_) hk3
  subst p
  refine hm c m M n' _ v _ _ E ok.X st' i ?_
  exact callWith_K (first := [v]) ok.X hk (ha pos c env m M n' _ _ E ok st' (se.up sb) fun vs l' h2 tk2 n2 st2 sb2 p2 al => ⟨ok.X.keeps st2.F.keep, by
      subst p2
      exact hF c m M n2 _ (v :: vs) Q E ok st2 (.cons (i.up sb2) al) fun v a h3 tk3 n3 st3 sb3 => q v a h3 tk3 n3 st3 ((sb.tr sb2).tr sb3)⟩) (k1 env) (k2 env)
theorem Ev.meth0 {o : PySem.Expr} {name : Str} {apos pos : Pos} {a : AV} {f : Addr} {P : AV → Prop} (ho : Ev w d kd ρ o (· = a)) (hm : Mt w a name f) (hk : keepIn (hd.heap_39 w.params) (.ref f) = true) (hF : Fn w d f [a] P)
    (k3 : ∀ env, ∃ pl, eval (.Call (.Attribute o name apos) [] [] pos) env = (do let ov ← eval o env; standAt apos.atName; let (f, first) ← holding [ov] (getMethod ov name pl); callWith pos f first (backTo pos (starEach [] env)) []) := by intro _; with_unfolding_all exact ⟨_, rfl⟩) : Ev w d kd ρ (.Call (.Attribute o name apos) [] [] pos) P := fun c env m M news s Q E ok st se q => by
  obtain ⟨pl, hk3⟩ := k3 env
  refine MethodCall_ (pl := pl) (ho c env m M news s _ E ok st se fun v a' h' tk' n' st' sb p i => ?_) hk3
  subst p
  refine hm c m M n' _ v _ _ E ok.X st' i ?_
  exact callWith_K0 (first := [v]) (ok.X.keeps st'.F.keep) hk (hF c m M n' _ [v] Q E ok st' (.one i) fun v a h3 tk3 n3 st3 sb3 => q v a h3 tk3 n3 st3 (sb.tr sb3))
/-- a field -/
noncomputable def At (w : World) (a : AV) (name : Str) (b : AV) : Prop :=
  ∀ (c : Ctx) (m : Str → Option Value) (M news : Led) (s : Shared) (v : Value) (Q : Value → Shared → Prop) (E : Value → Shared → Prop), (hd.heap_39 w.params).In c.h₀ → St c m M news s.heap → Is w news v a → (∀ u tk, Is w news u b → Q u { s with toks := tk }) → wpAny (model Pr w) c.A (getAttr v name true) Q E s
theorem At.top {x : Int} : At w (.dec x) (Str.ofString "top") (.int (T6 x)) := by
  intro c m M news s v Q E X st i q
  cases i with | dec g1 g2 =>
  exact get_own (attr := none) st.F X (InstAt.of_news st.N (st.mem g1) (st.mem g2)) (by kernel_rfl) (by kernel_rfl) (by kernel_rfl) (by kernel_rfl) (by rfl) (by rfl) (q _ _ (.int _ _))
theorem At.places {x : Int} : At w (.dec x) (Str.ofString "places") (.int (P6 x)) := by
  intro c m M news s v Q E X st i q
  cases i with | dec g1 g2 =>
  exact get_own (attr := none) st.F X (InstAt.of_news st.N (st.mem g1) (st.mem g2)) (by kernel_rfl) (by kernel_rfl) (by kernel_rfl) (by kernel_rfl) (by rfl) (by rfl) (q _ _ (.int _ _))
theorem Ev.attr {x name : Str} {xp pos : Pos} {a b : AV} (ho : Ev w d kd ρ (.Name x xp) (· = a)) (h : At w a name b) : Ev w d kd ρ (.Attribute (.Name x xp) name pos) (· = b) := fun c env m M news s Q E ok st se q =>
  Attribute_Name_ (ho c env m M news s _ E ok st se fun v a' h' tk' n' st' sb p i => by
    subst p
    exact h c m M n' _ v _ E ok.X st' i fun u tk j => q u b h' tk n' st' sb rfl j)
theorem Ev.attrA {o : PySem.Expr} {name : Str} {pos : Pos} {a b : AV} (ho : Ev w d kd ρ o (· = a)) (h : At w a name b) (k : ∀ env, eval (.Attribute o name pos) env = (do let v ← eval o env; standAt pos.atName; let r ← holding [v] (getAttr v name true); letTemporaryGo o v r; pure r) := by intro _; with_unfolding_all rfl) : Ev w d kd ρ (.Attribute o name pos) (· = b) := fun c env m M news s Q E ok st se q =>
  Attribute_any_ (ho c env m M news s _ E ok st se fun v a' h' tk' n' st' sb p i => by
    subst p
    exact h c m M n' _ v _ E ok.X st' i fun u tk j => q u b h' tk n' st' sb rfl j) (k env)
/-- Decimal(top, places) -/
theorem Fn.decimal {i p x : Int} (hp0 : 0 ≤ p) (hp1 : p ≤ 6) (hx : i * 10 ^ (6 - p).toNat = x) : Fn w (d + 10) 155 [.int i, .int p] (· = .dec x) := by
  intro c m M news s vs Q E ok st al q
  obtain ⟨u, v, rfl, h1, h2⟩ := al.inv2
  cases h1; cases h2
  refine ct_Decimal ok.B st.F ok.X st.N ok.T ok.hk (by have := ok.hd; omega) hp0 hp1 hx fun r b k1 k2 k3 k4 h' tk' lt lt2 F' N' => ?_
  exact q _ _ _ _ _ (st.push2 F' N' lt lt2) (fun p hp => .tail _ (.tail _ hp)) rfl (.dec (.head _) (.tail _ (.head _)))
end
/- built-in functions, items, slices -/
theorem len1 {vs : List Value} (h : vs.length = 1) : ∃ a, vs = [a] := by match vs, h with | [a], _ => exact ⟨a, rfl⟩
theorem len2 {vs : List Value} (h : vs.length = 2) : ∃ a b, vs = [a, b] := by match vs, h with | [a, b], _ => exact ⟨a, b, rfl⟩
theorem len3 {vs : List Value} (h : vs.length = 3) : ∃ a b c, vs = [a, b, c] := by match vs, h with | [a, b, c], _ => exact ⟨a, b, c, rfl⟩
theorem ints_of {w : World} {led : Led} : ∀ {vs : List Value} {ns : List Int}, Alls w led vs (ns.map .int) → IntsAre vs ns
  | _, [], .nil => .nil
  | _, _ :: _, .cons h hs => by cases h; exact .cons _ _ (ints_of hs)
theorem ints_is {w : World} {led : Led} : ∀ {vs : List Value} {ns : List Int}, IntsAre vs ns → Alls w led vs (ns.map .int)
  | _, [], .nil => .nil
  | _, _ :: _, .cons n t h => .cons (.int n t) (ints_is h)
section
variable {w : World} {d : Nat} {kd : Str → Option NameKind} {ρ : List (Str × AV)}
theorem Do.abs {i : Int} : Do w d [.int i] (fun vs => PySem.call (.builtin "abs") vs) (· = .int (if i < 0 then -i else i)) := by
  intro c m M news s vs Q E ok st al q
  obtain ⟨u, rfl, h1⟩ := al.inv1
  cases h1
  exact call_abs_int fun u tk => q _ _ _ _ news st Sub.rfl' rfl (.int _ _)
theorem Do.max2 {i j : Int} : Do w d [.int i, .int j] (fun vs => PySem.call (.builtin "max") vs) (· = .int (max i j)) := by
  intro c m M news s vs Q E ok st al q
  obtain ⟨u, v, rfl, h1, h2⟩ := al.inv2
  cases h1; cases h2
  refine max_two_N rfl st.F st.N fun h' tk F' N' => q _ _ _ _ news (st.same F' N') Sub.rfl' rfl ?_
  rw [show max i j = if j > i then j else i by omega]
  exact .int _ _
theorem Do.min2 {i j : Int} : Do w d [.int i, .int j] (fun vs => PySem.call (.builtin "min") vs) (· = .int (min i j)) := by
  intro c m M news s vs Q E ok st al q
  obtain ⟨u, v, rfl, h1, h2⟩ := al.inv2
  cases h1; cases h2
  refine min_two_N rfl st.F st.N fun h' tk F' N' => q _ _ _ _ news (st.same F' N') Sub.rfl' rfl ?_
  rw [show min i j = if j < i then j else i by omega]
  exact .int _ _
theorem Do.len {l : List AV} {k : Int} (h : (l.length : Int) = k) (hk : l.length ≤ 1000) : Do w d [.lst l] (fun vs => PySem.call (.builtin "len") vs) (· = .int k) := by
  intro c m M news s vs Q E ok st al q
  obtain ⟨u, rfl, h1⟩ := al.inv1
  cases h1 with | lst hm hs =>
  exact kun_lenL (st.list hm) (by rw [List.size_toArray, hs.length]; exact h) (by omega) (q _ _ _ _ news st Sub.rfl' rfl (.int _ _))
theorem Do.sum {ns : List Int} : Do w d [.lst (ns.map .int)] (fun vs => PySem.call (.builtin "sum") vs) (· = .int ns.sum) := by
  intro c m M news s vs Q E ok st al q
  obtain ⟨u, rfl, h1⟩ := al.inv1
  cases h1 with | lst hm hs =>
  exact sumK rfl st.F st.N (st.list hm) (ints_of hs) fun h' tk t F' N' => q _ _ _ _ news (st.same F' N') Sub.rfl' rfl (.int _ _)
theorem Do.maxL {ns : List Int} (h0 : 0 < ns.length) : Do w d [.lst (ns.map .int)] (fun vs => PySem.call (.builtin "max") vs) (fun r => ∃ k, r = .int k ∧ k ∈ ns ∧ ∀ a ∈ ns, a ≤ k) := by
  intro c m M news s vs Q E ok st al q
  obtain ⟨u, rfl, h1⟩ := al.inv1
  cases h1 with | lst hm hs =>
  exact kso_max st.F st.N (st.list hm) (ints_of hs) h0 rfl fun h' k t tk F' N' e1 e2 => q _ _ _ _ news (st.same F' N') Sub.rfl' ⟨k, rfl, e1, e2⟩ (.int _ _)
theorem Do.list {l : List AV} (hk : l.length ≤ 1000) : Do w d [.lst l] (fun vs => PySem.call (.type "list") vs) (· = .lst l) := by
  intro c m M news s vs Q E ok st al q
  obtain ⟨u, rfl, h1⟩ := al.inv1
  cases h1 with | lst hm hs =>
  refine kup_listOf st.F st.N (st.mem hm) rfl (fun D n h' F' N' lt => ?_) (by show (_ : List Value).length ≤ _; rw [List.toList_toArray, hs.length, sizeLine_eq]; omega)
  exact q _ _ _ _ _ (st.push F' N' lt) Sub.cons' rfl (.lst (.head _) (hs.up Sub.cons'))
theorem Do.isi_dec {x : Int} {t : Value} {b : Bool} (h : kitOne (hd.heap_39 w.params) (.ref 155) t = some b) : Do w d [.dec x, .val t] (fun vs => PySem.call (.builtin "isinstance") vs) (· = .bool b) := by
  intro c m M news s vs Q E ok st al q
  obtain ⟨u, v, rfl, h1, h2⟩ := al.inv2
  cases h2
  cases h1 with | dec g1 g2 =>
  exact kia_one (kitx_own (by kernel_rfl) (by kernel_rfl) (by kernel_rfl) (by kernel_rfl) (by kernel_rfl) (by kernel_rfl)) (ok.X.keeps st.F.keep) (InstAt.of_news st.N (st.mem g1) (st.mem g2)) h (by intro e; cases e) fun tk => q _ _ _ _ news st Sub.rfl' rfl (.bool _)
theorem Do.isi_int {i : Int} {t : Value} {b : Bool} (h : kitOne (hd.heap_39 w.params) (.type "int") t = some b) : Do w d [.int i, .val t] (fun vs => PySem.call (.builtin "isinstance") vs) (· = .bool b) := by
  intro c m M news s vs Q E ok st al q
  obtain ⟨u, v, rfl, h1, h2⟩ := al.inv2
  cases h2
  cases h1
  exact kia_one kitx_int (ok.X.keeps st.F.keep) trivial h (by intro e; cases e) fun tk => q _ _ _ _ news st Sub.rfl' rfl (.bool _)
theorem Ev.neg {e : PySem.Expr} {pos : Pos} {i : Int} (h : Ev w d kd ρ e (· = .int i)) : Ev w d kd ρ (.UnaryOp .USub e pos) (· = .int (-i)) := fun c env m M news s Q E ok st se q =>
  UnaryOp_ (h c env m M news s _ E ok st se fun u a h' tk' n' st' sb p i => by
    subst p; cases i
    exact neg_int (q _ _ _ _ _ st' sb rfl (.int _ _)))
theorem Do2.isnn : Do2 w d .none .none (fun u v => compareOp .Is u v) (· = .bool true) := by
  intro c m M news s u v Q E ok st hu hv q
  cases hu; cases hv
  exact is_none_none (q _ _ _ _ news st Sub.rfl' rfl (.bool _))
theorem Do2.isdn {x : Int} : Do2 w d (.dec x) .none (fun u v => compareOp .Is u v) (· = .bool false) := by
  intro c m M news s u v Q E ok st hu hv q
  cases hu; cases hv
  exact is_ref_none (q _ _ _ _ news st Sub.rfl' rfl (.bool _))
/-- the texts of a tuple -/
theorem strs_of {w : World} {led : Led} : ∀ {vs : List Value} {xs : List Str}, Alls w led vs (xs.map .str) → StrsAre vs xs
  | _, [], .nil => .nil
  | _, _ :: _, .cons h hs => by cases h; exact .cons _ _ (strs_of hs)
theorem Do2.inT {x : Str} {ys : List Str} : Do2 w d (.str x) (.tup (ys.map .str)) (fun u v => compareOp .In u v) (· = .bool (ys.any fun y => y == x)) := by
  intro c m M news s u v Q E ok st hu hv q
  cases hu
  cases hv with | tup hm hs =>
  exact in_tuple_strs (News.isTup (st.N) (st.mem hm)) (strs_of hs) (q _ _ _ _ news st Sub.rfl' rfl (.bool _))
theorem Do2.mulL {ns : List Int} {x : Int} (h0 : 0 ≤ x) (h1 : ns.length * x.toNat ≤ 1000) (h2 : x ≤ 1000) : Do2 w d (.lst (ns.map .int)) (.int x) (fun u v => binaryOp .Mult u v) (· = .lst ((List.replicate x.toNat ns).flatten.map .int)) := by
  intro c m M news s u v Q E ok st hu hv q
  cases hv
  cases hu with | lst hm hs =>
  have e := hs.length
  rw [List.length_map] at e
  refine KM.mul st.F st.N (st.list hm) (ints_of hs) (by omega) (by omega) (by rw [e]; omega) fun D h' F' N' lt hi _ _ _ _ _ => ?_
  exact q _ _ _ _ _ (st.push F' N' lt) Sub.cons' rfl (.lst (.head _) (ints_is hi))
theorem item_led' {prog : Program} {A : Around} {E : Value → Shared → Prop} {s : Shared} {h₀ : Heap} {L l : Addr} {news : Led} {value slice : PySem.Expr} {vs : List Value} {n : Nat} {k : Int} {u : Tok} {v : Value} {Q : Value → Shared → Prop}
    (N : News h₀ L s.heap news) (hm : (l, listOf vs.toArray n) ∈ news) (h0 : 0 ≤ k) (hhi : k < 2 ^ 63) (hx : vs[k.toNat]? = some v) (h : Q v s)
    (hs : subscripted slice false (.ref l) (.int k u) = operate [.ref l, .int k u] (getItem (.ref l) (.int k u))) : wpAny (model prog w) A (subscriptTail value slice (.ref l) (.int k u)) Q E s := by
  have hl : s.heap.IsList l vs.toArray := ⟨_, (N _ hm).1, rfl, n, rfl⟩
  exact tail_any hl.typeIs slot_list_getitem.lookup (wpAny_getItem_list hl h0 hhi (by simpa using hx) h) hs
theorem Ev.item {o i : PySem.Expr} {pos : Pos} {l : List AV} {k : Int} {a : AV} (ho : Ev w d kd ρ o (· = .lst l)) (hi : Ev w d kd ρ i (· = .int k)) (h0 : 0 ≤ k) (h1 : k < 2 ^ 63) (hx : l[k.toNat]? = some a)
    (k1 : ∀ (b : Addr) (u : Tok), subscripted i false (.ref b) (.int k u) = operate [.ref b, .int k u] (getItem (.ref b) (.int k u)) := by intro _ _; with_unfolding_all rfl) : Ev w d kd ρ (.Subscript o i pos) (· = a) := fun c env m M news s Q E ok st se q =>
  Subscript_ (ho c env m M news s _ E ok st se fun v a' h' tk' n' st' sb p j => hi c env m M n' _ _ E ok st' (se.up sb) fun u a2 h2 tk2 n2 st2 sb2 p2 j2 => by
    subst p; subst p2
    cases j2
    cases j.up sb2 with | lst hm hs =>
    obtain ⟨x, hx1, hx2⟩ := hs.get _ hx
    exact item_led' st2.N (st2.mem hm) h0 h1 hx1 (q _ _ _ _ _ st2 (sb.tr sb2) rfl hx2) (k1 _ _))
/-- a slice's part -/
noncomputable def Pt (w : World) (d : Nat) (kd : Str → Option NameKind) (ρ : List (Str × AV)) (e : Option PySem.Expr) (k : Option Int) : Prop :=
  ∀ (c : Ctx) (env : Env) (m : Str → Option Value) (M news : Led) (s : Shared) (Q E : Value → Shared → Prop), c.Ok w d → St c m M news s.heap → Sees w kd ρ env c m M news →
    (∀ v h' tk' news', St c m M news' h' → Sub news news' → IsPart v k → Q v { s with heap := h', toks := tk' }) → wpAny (model Pr w) c.A (evalPart e env) Q E s
theorem Pt.none : Pt w d kd ρ none none := fun c env m M news s Q E ok st se q => evalPart_none_step (q _ _ _ news st Sub.rfl' .none)
theorem Pt.some {e : PySem.Expr} {k : Int} (h : Ev w d kd ρ e (· = .int k)) : Pt w d kd ρ (some e) (some k) := fun c env m M news s Q E ok st se q =>
  evalPart_some_step (h c env m M news s _ E ok st se fun v a h' tk' n' st' sb p i => by subst p; cases i; exact q _ _ _ _ st' sb (.int _ _))
theorem pick_alls {led : Led} {vs : List Value} {l : List AV} (h : Alls w led vs l) : ∀ (n k : Nat), Alls w led ((vs.drop n).take k) ((l.drop n).take k) := by
  induction h using Alls.rec (motive_1 := fun _ _ _ => True) with
  | nil => intro n k; simp only [List.drop_nil, List.take_nil]; exact .nil
  | cons h hs _ ih =>
    intro n k
    match n, k with
    | 0, 0 => simp only [List.drop_zero, List.take_zero]; exact .nil
    | 0, k + 1 => simp only [List.drop_zero, List.take_succ_cons]; exact .cons h (by have := ih 0 k; simpa only [List.drop_zero] using this)
    | n + 1, k => simp only [List.drop_succ_cons]; exact ih n k
  | _ => trivial
/-- what a slice picks -/
noncomputable def pickA (l : List AV) (lo hi : Option Int) : List AV := (l.drop (kms_lo lo l.length)).take (kms_hi hi l.length - kms_lo lo l.length)
theorem pick_tail (a : AV) (r : List AV) : pickA (a :: r) (some 1) none = r := by
  have e1 : kms_lo (some 1) (a :: r).length = 1 := by simp [kms_lo]
  unfold pickA
  rw [e1]
  show r.take (r.length + 1 - 1) = r
  exact List.take_of_length_le (by omega)
theorem Ev.slice {x : Str} {xp pos sp : Pos} {lo hi : Option PySem.Expr} {i j : Option Int} {l r : List AV} (ho : Ev w d kd ρ (.Name x xp) (· = .lst l)) (hl : Pt w d kd ρ lo i) (hh : Pt w d kd ρ hi j) (hr : pickA l i j = r) (hz : l.length ≤ 1000) :
    Ev w d kd ρ (.Subscript (.Name x xp) (.Slice lo hi none sp) pos) (· = .lst r) := fun c env m M news s Q E ok st se q =>
  Subscript_ (ho c env m M news s _ E ok st se fun v a' h' tk' n' st' sb p e => by
    subst p
    refine wpAny_Slice (hl c env m M n' _ _ E ok st' (se.up sb) fun u1 h1 tk1 n1 st1 sb1 p1 => hh c env m M n1 _ _ E ok st1 (se.up (sb.tr sb1)) fun u2 h2 tk2 n2 st2 sb2 p2 => evalPart_none_step ?_)
    cases e.up (sb1.tr sb2) with | lst hm hs =>
    refine kms_slice_lit st2.F st2.N (st2.list hm) p1 p2 rfl (fun D h3 F3 N3 lt => ?_) rfl (fun _ => rfl) (by rw [List.size_toArray, hs.length, sizeLine_eq]; omega)
    refine q _ _ _ _ _ (st2.push F3 N3 lt) (((sb.tr sb1).tr sb2).tr Sub.cons') rfl (.lst (.head _) ?_)
    rw [← hr]
    unfold pickA kms_pick
    rw [List.toList_toArray, hs.length]
    exact (pick_alls hs _ _).up Sub.cons')
theorem Ts.to {e : PySem.Expr} {b b' : Bool} (h : Ts w d kd ρ e (· = b)) (k : b = b') : Ts w d kd ρ e (· = b') := k ▸ h
theorem Ev.to {e : PySem.Expr} {a b : AV} (h : Ev w d kd ρ e (· = a)) (k : a = b) : Ev w d kd ρ e (· = b) := k ▸ h
-- early returns
theorem Ex.ifr {t : PySem.Expr} {body rest : List Stmt} {pos : Pos} {N : List (Str × AV) → Prop} {R : AV → Prop} {P : Bool → Prop} (h : Ts w d kd ρ t P) (hb : P true → Ex w d kd ρ body (fun _ => False) R) (he : P false → Ex w d kd ρ rest N R) : Ex w d kd ρ (.If t body [] pos :: rest) N R :=
  .cons (Ex1.ife (N := fun r => r = ρ ∧ P false) h (fun p c m M news s Q E ok ow st lo q r => hb p c m M news s Q E ok ow st lo (fun _ _ _ _ _ _ _ _ _ _ z => z.elim) r) fun p => Ex.nil ⟨rfl, p⟩) fun r ⟨e, p⟩ => e ▸ he p
theorem Ex.ifrT {t : PySem.Expr} {body rest : List Stmt} {pos : Pos} {N : List (Str × AV) → Prop} {R : AV → Prop} (h : Ts w d kd ρ t (· = true)) (hb : Ex w d kd ρ body (fun _ => False) R) : Ex w d kd ρ (.If t body [] pos :: rest) N R := .ifr h (fun _ => hb) fun e => by cases e
theorem Ex.ifrF {t : PySem.Expr} {body rest : List Stmt} {pos : Pos} {N : List (Str × AV) → Prop} {R : AV → Prop} (h : Ts w d kd ρ t (· = false)) (he : Ex w d kd ρ rest N R) : Ex w d kd ρ (.If t body [] pos :: rest) N R := .ifr h (fun e => by cases e) fun _ => he
end
/- unpacking, loops, cells -/
section
variable {w : World} {d : Nat} {kd : Str → Option NameKind} {ρ : List (Str × AV)}
noncomputable abbrev nmE (xs : List (Str × Pos)) : List PySem.Expr := xs.map fun x => .Name x.1 x.2
noncomputable def bindA : List (Str × Pos) → List AV → List (Str × AV) → List (Str × AV)
  | x :: xs, a :: l, ρ => bindA xs l ((x.1, a) :: ρ)
  | _, _, ρ => ρ
theorem ae_len {env : Env} : ∀ (xs : List (Str × Pos)), (assignEach (nmE xs) env).length = xs.length
  | [] => rfl
  | x :: xs => by
    show ((false, assign (.Name x.1 x.2) env) :: assignEach (nmE xs) env).length = _
    rw [List.length_cons, ae_len xs]; rfl
theorem ae_idx {env : Env} : ∀ (xs : List (Str × Pos)), List.findIdx? (fun x => x.1) (assignEach (nmE xs) env) = none
  | [] => rfl
  | x :: xs => by
    show List.findIdx? (fun x => x.1) ((false, assign (.Name x.1 x.2) env) :: assignEach (nmE xs) env) = _
    rw [List.findIdx?_cons, ae_idx xs]; rfl
theorem asg_names {c : Ctx} {E : Value → Shared → Prop} (hk : c.cs.kind = .function) : ∀ (xs : List (Str × Pos)) {vs : List Value} {l : List AV} {ρ : List (Str × AV)} {m : Str → Option Value} {M news : Led} {s : Shared} {Q : Unit → Shared → Prop}, (∀ x ∈ xs, kd x.1 = some .local) → St c m M news s.heap → Loc w kd ρ c m M news → Alls w news vs l → xs.length = vs.length →
    (∀ m' h' tk', St c m' M news h' → Loc w kd (bindA xs l ρ) c m' M news → Q () { s with heap := h', toks := tk' }) → wpAny (model Pr w) c.A (assignInOrder ((assignEach (nmE xs) c.env).map (·.2)) vs) Q E s
  | [], _, _, _, _, _, _, _, _, _, st, lo, al, e, q => by
    cases al with
    | nil => exact assignInOrder_nil (q _ _ _ st lo)
    | cons => cases e
  | x :: xs, _, _, ρ, m, M, news, s, Q, hl, st, lo, al, e, q => by
    cases al with
    | nil => cases e
    | cons h al =>
      show wpAny _ _ (assignInOrder (assign (.Name x.1 x.2) c.env :: (assignEach (nmE xs) c.env).map (·.2)) _) _ _ _
      refine assignInOrder_cons (assign_Name (storeX_L st.F st.N (fun h2 F2 N2 => ?_) hk (by rw [lo.kof]; exact hl x (.head _))))
      exact asg_names hk xs (fun y hy => hl y (.tail _ hy)) ⟨F2, N2, st.A⟩ (lo.setL (hl x (.head _)) h) al (Nat.succ.inj e) fun m' h' tk' st' lo' => q m' h' tk' st' lo'
theorem Ex1.unpT {xs : List (Str × Pos)} {k : Nat} {tp pos : Pos} {e : PySem.Expr} {l : List AV} {R : AV → Prop} (h : Ev w d kd ρ e (· = .tup l)) (hn : xs.length = l.length) (hl : ∀ x ∈ xs, kd x.1 = some .local)
    (k1 : ∀ env, swapsWithSole [.Tuple (nmE xs) k tp] e pos.line env = pure false := by intro _; with_unfolding_all rfl) (k2 : ∀ env, swappedStores [.Tuple (nmE xs) k tp] e env = pure none := by intro _; with_unfolding_all rfl) :
    Ex1 w d kd ρ (.Assign [.Tuple (nmE xs) k tp] e pos) (· = bindA xs l ρ) R := fun c m M news s Q E ok ow st lo q r =>
  Assign_Tuple (h c c.env m M news s _ E ok st (lo.sees ok.hk) fun v a' h' tk' n' st' sb p i => by
    subst p
    cases i with | tup hm hs =>
    refine unpackN_ st'.F st'.N (News.isTup st'.N (st'.mem hm)) rfl (by rw [ae_len, List.size_toArray, hs.length, hn]) (ae_idx xs) fun h2 F2 N2 => ?_
    exact asg_names ok.hk xs hl ⟨F2, N2, st'.A⟩ (lo.up sb) hs (by rw [hn, hs.length]) fun m' h3 tk3 st3 lo3 => q _ _ _ _ _ _ st3 lo3 Mv.rfl' sb rfl) (k1 _) (k2 _)
theorem Ex1.unpL {xs : List (Str × Pos)} {k : Nat} {tp pos : Pos} {e : PySem.Expr} {l : List AV} {R : AV → Prop} (h : Ev w d kd ρ e (· = .lst l)) (hn : xs.length = l.length) (hl : ∀ x ∈ xs, kd x.1 = some .local)
    (k1 : ∀ env, swapsWithSole [.Tuple (nmE xs) k tp] e pos.line env = pure false := by intro _; with_unfolding_all rfl) (k2 : ∀ env, swappedStores [.Tuple (nmE xs) k tp] e env = pure none := by intro _; with_unfolding_all rfl) :
    Ex1 w d kd ρ (.Assign [.Tuple (nmE xs) k tp] e pos) (· = bindA xs l ρ) R := fun c m M news s Q E ok ow st lo q r =>
  Assign_Tuple (h c c.env m M news s _ E ok st (lo.sees ok.hk) fun v a' h' tk' n' st' sb p i => by
    subst p
    cases i with | lst hm hs =>
    refine kun_list st'.F st'.N (st'.list hm) rfl (by rw [ae_len, List.size_toArray, hs.length, hn]) (ae_idx xs) fun h2 F2 N2 => ?_
    exact asg_names ok.hk xs hl ⟨F2, N2, st'.A⟩ (lo.up sb) hs (by rw [hn, hs.length]) fun m' h3 tk3 st3 lo3 => q _ _ _ _ _ _ st3 lo3 Mv.rfl' sb rfl) (k1 _) (k2 _)
/-- a cell stored -/
theorem Ex1.cell {x : Str} {px pos : Pos} {e : PySem.Expr} {a : AV} {R : AV → Prop} (h : Ev w d kd ρ e (· = a)) (hc : kd x = some .cell := by kernel_rfl) (k : ∀ env, swapsWith e (some (PySem.Expr.Name x px)) pos.line env = pure false := by intro _; with_unfolding_all rfl) : Ex1 w d kd ρ (.Assign [.Name x px] e pos) (· = (x, a) :: ρ) R := fun c m M news s Q E ok ow st lo q r =>
  wpAny_Assign_Name (h c c.env m M news s _ E ok st (lo.sees ok.hk) fun v a' h' tk' n' st' sb p i => by
    subst p
    obtain ⟨b, hb⟩ := Option.isSome_iff_exists.mp (lo.hc x hc)
    obtain ⟨own, o, rest, v₀, rfl, hd, o1, o2⟩ := lo.nd x b hb
    have hm := st'.N (b, o) (List.mem_append_left _ (List.mem_append_right _ (.head _)))
    refine wpAny_storeName_cell ok.hk (by rw [lo.kof]; exact hc) hb ⟨o, hm.1, hd⟩ fun h2 ⟨o', ho', hd'⟩ hsb => ?_
    have o3 : ∀ p ∈ n', p.1 ≠ b := fun p hp => st'.A p hp _ (List.mem_append_right _ (.head _))
    have st2 : St c m (own ++ (b, o') :: rest) n' h2 := ⟨⟨st'.F.ns.sameBut hsb (Ne.symm hm.2.1), fun z oz e => (hsb.2 z (fun q => by rw [q, hm.2.2] at e; cases e)).trans (st'.F.keep z oz e), st'.F.above⟩, fun p hp => by
        rcases List.mem_append.mp hp with hp | hp
        · rcases List.mem_append.mp hp with hp | hp
          · have := st'.N p (List.mem_append_left _ (List.mem_append_left _ hp)); exact ⟨(hsb.2 _ (o1 p hp)).trans this.1, this.2⟩
          · rcases List.mem_cons.mp hp with rfl | hp
            · exact ⟨ho', hm.2⟩
            · have := st'.N p (List.mem_append_left _ (List.mem_append_right _ (.tail _ hp))); exact ⟨(hsb.2 _ (o2 p hp)).trans this.1, this.2⟩
        · have := st'.N p (List.mem_append_right _ hp); exact ⟨(hsb.2 _ (o3 p hp)).trans this.1, this.2⟩, fun p hp y hy => by
        rcases List.mem_append.mp hy with hy | hy
        · exact st'.A p hp y (List.mem_append_left _ hy)
        · rcases List.mem_cons.mp hy with rfl | hy
          · exact o3 p hp
          · exact st'.A p hp y (List.mem_append_right _ (.tail _ hy))⟩
    refine q _ _ _ _ _ _ st2 ⟨lo.kof, fun y z hy => ?_, lo.ap, fun y b' hy => ?_, lo.hc⟩ (Mv.set hb) sb rfl
    · cases hy with
      | hd => exact .inr ⟨hc, b, o', v, hb, List.mem_append_right _ (.head _), hd', i⟩
      | tl hn hy =>
        rcases (lo.up sb).nm y z hy with l | ⟨k1, b1, oz, vz, e1, e2, e3, iz⟩
        · exact .inl l
        · refine .inr ⟨k1, b1, oz, vz, e1, ?_, e3, iz⟩
          have hne : b1 ≠ b := fun e => by have := lo.ap y x b (e ▸ e1) hb; rw [this] at hn; simp at hn
          rcases List.mem_append.mp e2 with e2 | e2
          · exact List.mem_append_left _ e2
          · rcases List.mem_cons.mp e2 with e2 | e2
            · exact absurd (congrArg Prod.fst e2) hne
            · exact List.mem_append_right _ (.tail _ e2)
    · by_cases hyx : y = x
      · subst hyx
        rw [hb] at hy; cases hy
        exact ⟨own, o', rest, some v, rfl, hd', o1, o2⟩
      · have hne : b' ≠ b := fun e => hyx (lo.ap y x b (e ▸ hy) hb)
        obtain ⟨own', oy, rest', w₀, er, hdy, p1, p2⟩ := lo.nd y b' hy
        -- the cell of another name stays
        have hm2 : (b', oy) ∈ own ++ (b, o) :: rest := by rw [er]; exact List.mem_append_right _ (.head _)
        have hm3 : (b', oy) ∈ own ++ (b, o') :: rest := by
          rcases List.mem_append.mp hm2 with e2 | e2
          · exact List.mem_append_left _ e2
          · rcases List.mem_cons.mp e2 with e2 | e2
            · exact absurd (congrArg Prod.fst e2) hne
            · exact List.mem_append_right _ (.tail _ e2)
        have cnt : ∀ (M : Led) (a : Addr), (∃ own o rest, M = own ++ (a, o) :: rest ∧ (∀ p ∈ own, p.1 ≠ a) ∧ ∀ p ∈ rest, p.1 ≠ a) ↔ (M.map (·.1)).count a = 1 := by
          intro M a
          constructor
          · rintro ⟨own, o, rest, rfl, q1, q2⟩
            rw [List.map_append, List.map_cons, List.count_append, List.count_cons_self, List.count_eq_zero.mpr (fun h => by obtain ⟨p, hp, e⟩ := List.mem_map.mp h; exact q1 p hp e), List.count_eq_zero.mpr (fun h => by obtain ⟨p, hp, e⟩ := List.mem_map.mp h; exact q2 p hp e)]
          · intro h
            induction M with
            | nil => cases h
            | cons p r ih =>
              rw [List.map_cons] at h
              by_cases e : p.1 = a
              · subst e
                rw [List.count_cons_self] at h
                have : (r.map (·.1)).count p.1 = 0 := by omega
                exact ⟨[], p.2, r, rfl, (fun q hq => by cases hq), fun q hq e => List.count_eq_zero.mp this (e ▸ List.mem_map_of_mem hq)⟩
              · rw [List.count_cons_of_ne (by simpa using e)] at h
                obtain ⟨own, o, rest, er, q1, q2⟩ := ih h
                exact ⟨p :: own, o, rest, by rw [er]; rfl, (fun q hq => by
                  rcases List.mem_cons.mp hq with rfl | hq
                  · exact e
                  · exact q1 q hq), q2⟩
        have c1 := (cnt (own ++ (b, o) :: rest) b').mp ⟨own', oy, rest', er, p1, p2⟩
        have c2 : ((own ++ (b, o') :: rest).map (·.1)).count b' = 1 := by
          rw [List.map_append, List.map_cons] at c1 ⊢; exact c1
        obtain ⟨own2, o2', rest2, er2, q1, q2⟩ := (cnt _ b').mpr c2
        refine ⟨own2, o2', rest2, w₀, er2, ?_, q1, q2⟩
        have : (b', oy) = (b', o2') := by
          rw [er2] at hm3
          rcases List.mem_append.mp hm3 with h | h
          · exact absurd rfl (q1 _ h)
          · rcases List.mem_cons.mp h with h | h
            · exact h
            · exact absurd rfl (q2 _ h)
        cases this; exact hdy) (k _)
theorem Ex1.unp3T {x y z : Str} {px py pz : Pos} {k : Nat} {tp pos : Pos} {e : PySem.Expr} {a b c : AV} {R : AV → Prop} (h : Ev w d kd ρ e (· = .tup [a, b, c])) (hx : kd x = some .local := by kernel_rfl) (hy : kd y = some .local := by kernel_rfl) (hz : kd z = some .local := by kernel_rfl)
    (k1 : ∀ env, swapsWithSole [.Tuple [.Name x px, .Name y py, .Name z pz] k tp] e pos.line env = pure false := by intro _; with_unfolding_all rfl) (k2 : ∀ env, swappedStores [.Tuple [.Name x px, .Name y py, .Name z pz] k tp] e env = pure none := by intro _; with_unfolding_all rfl) :
    Ex1 w d kd ρ (.Assign [.Tuple [.Name x px, .Name y py, .Name z pz] k tp] e pos) (· = (z, c) :: (y, b) :: (x, a) :: ρ) R :=
  Ex1.unpT (xs := [(x, px), (y, py), (z, pz)]) h rfl (fun u hu => by
    rcases List.mem_cons.mp hu with rfl | hu
    · exact hx
    · rcases List.mem_cons.mp hu with rfl | hu
      · exact hy
      · rw [List.mem_singleton.mp hu]; exact hz) k1 k2
theorem Ex1.unp3L {x y z : Str} {px py pz : Pos} {k : Nat} {tp pos : Pos} {e : PySem.Expr} {a b c : AV} {R : AV → Prop} (h : Ev w d kd ρ e (· = .lst [a, b, c])) (hx : kd x = some .local := by kernel_rfl) (hy : kd y = some .local := by kernel_rfl) (hz : kd z = some .local := by kernel_rfl)
    (k1 : ∀ env, swapsWithSole [.Tuple [.Name x px, .Name y py, .Name z pz] k tp] e pos.line env = pure false := by intro _; with_unfolding_all rfl) (k2 : ∀ env, swappedStores [.Tuple [.Name x px, .Name y py, .Name z pz] k tp] e env = pure none := by intro _; with_unfolding_all rfl) :
    Ex1 w d kd ρ (.Assign [.Tuple [.Name x px, .Name y py, .Name z pz] k tp] e pos) (· = (z, c) :: (y, b) :: (x, a) :: ρ) R :=
  Ex1.unpL (xs := [(x, px), (y, py), (z, pz)]) h rfl (fun u hu => by
    rcases List.mem_cons.mp hu with rfl | hu
    · exact hx
    · rcases List.mem_cons.mp hu with rfl | hu
      · exact hy
      · rw [List.mem_singleton.mp hu]; exact hz) k1 k2
theorem Ex1.unp2T {x y : Str} {px py : Pos} {k : Nat} {tp pos : Pos} {e : PySem.Expr} {a b : AV} {R : AV → Prop} (h : Ev w d kd ρ e (· = .tup [a, b])) (hx : kd x = some .local := by kernel_rfl) (hy : kd y = some .local := by kernel_rfl)
    (k1 : ∀ env, swapsWithSole [.Tuple [.Name x px, .Name y py] k tp] e pos.line env = pure false := by intro _; with_unfolding_all rfl) (k2 : ∀ env, swappedStores [.Tuple [.Name x px, .Name y py] k tp] e env = pure none := by intro _; with_unfolding_all rfl) :
    Ex1 w d kd ρ (.Assign [.Tuple [.Name x px, .Name y py] k tp] e pos) (· = (y, b) :: (x, a) :: ρ) R :=
  Ex1.unpT (xs := [(x, px), (y, py)]) h rfl (fun u hu => by
    rcases List.mem_cons.mp hu with rfl | hu
    · exact hx
    · rw [List.mem_singleton.mp hu]; exact hy) k1 k2
end
/- loops -/
section
variable {w : World} {d : Nat} {kd : Str → Option NameKind}
theorem allObj_of : ∀ {ws : List (Addr × String)} {k : Led → Prop}, (∀ its, Objs ws its → k its) → AllObj ws k
  | [], _, h => h [] trivial
  | z :: ws, k, h => fun o ho => allObj_of fun its hi => h ((z.1, o) :: its) ⟨⟨rfl, ho⟩, hi⟩
theorem objs_addr : ∀ {ws : List (Addr × String)} {its : Led}, Objs ws its → ∀ p ∈ its, ∃ z ∈ ws, p.1 = z.1
  | [], [], _, _, hp => nomatch hp
  | [], _ :: _, h, _, _ => (show False from h).elim
  | _ :: _, [], h, _, _ => (show False from h).elim
  | z :: ws, q :: its, h, p, hp => by
    rcases List.mem_cons.mp hp with rfl | hp
    · exact ⟨z, .head _, h.1.1⟩
    · obtain ⟨y, hy, e⟩ := objs_addr h.2 p hp
      exact ⟨y, .tail _ hy, e⟩
theorem nd_tail : ∀ {its M own rest : Led} {q : Addr} {o : Obj}, its ++ M = own ++ (q, o) :: rest → (∀ p ∈ its, p.1 ≠ q) → (∀ p ∈ own, p.1 ≠ q) → ∃ own2, M = own2 ++ (q, o) :: rest ∧ ∀ p ∈ own2, p.1 ≠ q
  | [], _, own, _, _, _, e, _, h => ⟨own, e, h⟩
  | p :: its, M, [], _, q, o, e, hi, _ => by
    have e1 : p = (q, o) := (List.cons.inj e).1
    exact absurd (congrArg Prod.fst e1) (hi p (.head _))
  | p :: its, M, y :: own, _, q, o, e, hi, h => nd_tail (List.cons.inj e).2 (fun z hz => hi z (.tail _ hz)) fun z hz => h z (.tail _ hz)
theorem subL_of : ∀ {a b : Led}, (∀ p ∈ a, p ∈ b) → SubL a b
  | [], _, _ => trivial
  | p :: _, _, h => ⟨h p (.head _), subL_of fun q hq => h q (.tail _ hq)⟩
/-- what a turn's item binds -/
noncomputable def ItmOK (w : World) (kd : Str → Option NameKind) (target : PySem.Expr) (news : Led) (it : Itm) (bs : List (Str × AV)) : Prop :=
  ∀ (c : Ctx) (m : Str → Option Value) (M news' : Led) (s : Shared) (ρ : List (Str × AV)) (v : Value) (Q : Unit → Shared → Prop) (E : Value → Shared → Prop), c.cs.kind = .function → Sub news news' → St c m M news' s.heap → Loc w kd ρ c m M news' → it.Is v s.heap →
    (∀ m' h' tk', St c m' M news' h' → Loc w kd (bs ++ ρ) c m' M news' → Q () { s with heap := h', toks := tk' }) → wpAny (model Pr w) c.A (assign target c.env v) Q E s
theorem ItmOK.up {target : PySem.Expr} {news news' : Led} {it : Itm} {bs : List (Str × AV)} (h : ItmOK w kd target news it bs) (k : Sub news news') : ItmOK w kd target news' it bs := fun c m M n s ρ v Q E hk sb => h c m M n s ρ v Q E hk (k.tr sb)
theorem ItmOK.name {x : Str} {px : Pos} {news : Led} {v : Value} {a : AV} (hl : kd x = some .local) (i : Is w news v a) : ItmOK w kd (.Name x px) news (.val v) [(x, a)] := by
  intro c m M n s ρ v' Q E hk sb st lo hi q
  obtain rfl : v' = v := hi
  exact assign_Name (storeX_L st.F st.N (fun h2 F2 N2 => q _ _ _ ⟨F2, N2, st.A⟩ (lo.setL hl (i.up sb))) hk (by rw [lo.kof]; exact hl))
theorem bindA_app : ∀ (xs : List (Str × Pos)) (l : List AV) (ρ : List (Str × AV)), bindA xs l ρ = bindA xs l [] ++ ρ := by
  have key : ∀ (xs : List (Str × Pos)) (l : List AV) (a b : List (Str × AV)), bindA xs l (a ++ b) = bindA xs l a ++ b := by
    intro xs
    induction xs with
    | nil => intro l a b; rfl
    | cons x xs ih =>
      intro l a b
      cases l with
      | nil => rfl
      | cons y l => exact ih l ((x.1, y) :: a) b
  intro xs l ρ
  exact key xs l [] ρ
theorem ItmOK.tup {xs : List (Str × Pos)} {k : Nat} {tp : Pos} {news : Led} {v : Value} {l : List AV} (hl : ∀ x ∈ xs, kd x.1 = some .local) (hn : xs.length = l.length) (i : Is w news v (.tup l)) : ItmOK w kd (.Tuple (nmE xs) k tp) news (.val v) (bindA xs l []) := by
  intro c m M n s ρ v' Q E hk sb st lo hi q
  obtain rfl : v' = v := hi
  cases i.up sb with | tup hm hs =>
  refine unpackN_ st.F st.N (News.isTup st.N (st.mem hm)) rfl (by rw [ae_len, List.size_toArray, hs.length, hn]) (ae_idx xs) fun h2 F2 N2 => ?_
  exact asg_names hk xs hl ⟨F2, N2, st.A⟩ lo hs (by rw [hn, hs.length]) fun m' h3 tk3 st3 lo3 => q _ _ _ st3 (by rw [← bindA_app]; exact lo3)
theorem ItmOK.pair {x y : Str} {px py : Pos} {k : Nat} {tp : Pos} {news : Led} {f : Tok → Value} {u : Value} {a b : AV} (hx : kd x = some .local) (hy : kd y = some .local) (i : ∀ t, Is w news (f t) a) (j : Is w news u b) : ItmOK w kd (.Tuple [.Name x px, .Name y py] k tp) news (.pair f u) [(y, b), (x, a)] := by
  intro c m M n s ρ v' Q E hk sb st lo hi q
  obtain ⟨T, t, rfl, ht⟩ := hi
  refine unpackN_ (elts := nmE [(x, px), (y, py)]) st.F st.N ht rfl rfl (ae_idx [(x, px), (y, py)]) fun h2 F2 N2 => ?_
  exact asg_names (l := [a, b]) hk [(x, px), (y, py)] (fun z hz => by
    rcases List.mem_cons.mp hz with rfl | hz
    · exact hx
    · rw [List.mem_singleton.mp hz]; exact hy) ⟨F2, N2, st.A⟩ lo (.cons ((i t).up sb) (.one (j.up sb))) rfl fun m' h3 tk3 st3 lo3 => q _ _ _ st3 lo3
/-- the turns of a loop -/
noncomputable def Fors (w : World) (d : Nat) (kd : Str → Option NameKind) (body : List Stmt) (R : AV → Prop) : List (List (Str × AV)) → List (Str × AV) → (List (Str × AV) → Prop) → Prop
  | [], ρ, N => N ρ
  | bs :: r, ρ, N => Ex w d kd (bs ++ ρ) body (fun ρ' => Fors w d kd body R r ρ' N) R
inductive ItmsOK (w : World) (kd : Str → Option NameKind) (target : PySem.Expr) (news : Led) : List Itm → List (List (Str × AV)) → Prop
  | nil : ItmsOK w kd target news [] []
  | cons {it : Itm} {bs : List (Str × AV)} {xs : List Itm} {r : List (List (Str × AV))} : ItmOK w kd target news it bs → ItmsOK w kd target news xs r → ItmsOK w kd target news (it :: xs) (bs :: r)
theorem ItmsOK.up {target : PySem.Expr} {news news' : Led} (k : Sub news news') : ∀ {xs : List Itm} {r : List (List (Str × AV))}, ItmsOK w kd target news xs r → ItmsOK w kd target news' xs r
  | _, _, .nil => .nil
  | _, _, .cons h t => .cons (h.up k) (t.up k)
theorem items_rest {c : Ctx} {E : Value → Shared → Prop} {Q : Flow → Shared → Prop} {s : Shared} {target : PySem.Expr} {body : List Stmt} {ws : List (Addr × String)} {keep : Led} {N : List (Str × AV) → Prop} {R : AV → Prop} {M₀ n₀ : Led} (ok : c.Ok w d) (ow : PassesOwn (model Pr w) c.A c.env E)
    (q : ∀ ρ' m' M' h' tk' news', St c m' M' news' h' → Loc w kd ρ' c m' M' news' → Mv c M₀ M' → Sub n₀ news' → N ρ' → Q .next { s with heap := h', toks := tk' })
    (r : ∀ v a m' M' h' tk' news', St c m' M' news' h' → Sub n₀ news' → R a → Is w news' v a → Q (.ret v) { s with heap := h', toks := tk' }) :
    ∀ (xs : List Itm) (bss : List (List (Str × AV))) (ρ : List (Str × AV)) (m : Str → Option Value) (M news : Led), ItmsOK w kd target news xs bss → Fors w d kd body R bss ρ N → Sub keep news → Loc w kd ρ c m M news → Ap M news → (∀ p ∈ news, ∀ z ∈ ws, p.1 ≠ z.1) → (∀ p ∈ M, ∀ z ∈ ws, p.1 ≠ z.1) → Mv c M₀ M → Sub n₀ news →
      ItemsRest Pr w c.A E c.h₀ c.env target body Q s ws keep xs m (M ++ news)
  | [], _, ρ, m, M, news, .nil, hf, hk, lo, ap, w1, w2, mv, sb => fun h tk F Nn => q ρ m M h tk news ⟨F, Nn, ap⟩ lo mv sb hf
  | it :: xs, _, ρ, m, M, news, .cons hi hx (bs := bs) (r := bss), hf, hk, lo, ap, w1, w2, mv, sb => fun v h tk hv F => allObj_of fun its hits Nn => by
    have ia := objs_addr hits
    have n1 : ∀ p ∈ news, ∀ y ∈ its, p.1 ≠ y.1 := fun p hp y hy e => by obtain ⟨z, hz, ez⟩ := ia y hy; exact w1 p hp z hz (e.trans ez)
    have n2 : ∀ p ∈ M, ∀ y ∈ its, p.1 ≠ y.1 := fun p hp y hy e => by obtain ⟨z, hz, ez⟩ := ia y hy; exact w2 p hp z hz (e.trans ez)
    have st : St c m (its ++ M) news h := ⟨F, by rw [List.append_assoc]; exact Nn, fun p hp y hy => by
      rcases List.mem_append.mp hy with hy | hy
      · exact n1 p hp y hy
      · exact ap p hp y hy⟩
    have cellM : ∀ x b, c.cl.lookup x = some b → ∀ y ∈ its, y.1 ≠ b := fun x b hb y hy e => by
      obtain ⟨own, o, rest, v₀, er, _⟩ := lo.nd x b hb
      exact n2 (b, o) (by rw [er]; exact List.mem_append_right _ (.head _)) y hy e.symm
    have lo' : Loc w kd ρ c m (its ++ M) news := ⟨lo.kof, fun x a hl => by
      rcases lo.nm x a hl with l | ⟨k, b, o, v, e1, e2, e3, i⟩
      · exact .inl l
      · exact .inr ⟨k, b, o, v, e1, List.mem_append_right _ e2, e3, i⟩, lo.ap, fun x b hb => by
      obtain ⟨own, o, rest, v₀, er, hd, o1, o2⟩ := lo.nd x b hb
      refine ⟨its ++ own, o, rest, v₀, by rw [er, List.append_assoc], hd, fun p hp => ?_, o2⟩
      rcases List.mem_append.mp hp with hp | hp
      · exact cellM x b hb p hp
      · exact o1 p hp, lo.hc⟩
    refine hi c m (its ++ M) news _ ρ v _ _ ok.hk Sub.rfl' st lo' hv fun m1 h1 tk1 st1 lo1 => ?_
    refine hf c m1 (its ++ M) news _ _ _ ok ow st1 lo1 (fun ρ' m' M' h' tk' news' st2 lo2 mv2 sb2 hN => ?_) (fun v a m' M' h' tk' news' st2 sb2 hR i => r v a m' M' h' tk' news' st2 (sb.tr sb2) hR i)
    obtain ⟨M2, rfl, mv3⟩ := Mv.split mv2 fun p hp x e => cellM x p.1 e p hp rfl
    have addr : ∀ p ∈ M2, ∃ y ∈ M, y.1 = p.1 := fun p hp => by
      have : p.1 ∈ M.map (·.1) := by rw [mv3.addr]; exact List.mem_map_of_mem hp
      obtain ⟨y, hy, e⟩ := List.mem_map.mp this; exact ⟨y, hy, e⟩
    have n3 : ∀ p ∈ news', ∀ z ∈ ws, p.1 ≠ z.1 := fun p hp z hz e => by
      have : ∀ {ws : List (Addr × String)} {its : Led}, Objs ws its → z ∈ ws → ∃ y ∈ its, y.1 = z.1 := by
        intro ws
        induction ws with
        | nil => intro its _ h; cases h
        | cons u ws ih =>
          intro its ho h
          match its, ho with
          | y :: its, ho =>
            rcases List.mem_cons.mp h with rfl | h
            · exact ⟨y, .head _, ho.1.1⟩
            · obtain ⟨y', hy', e'⟩ := ih ho.2 h
              exact ⟨y', .tail _ hy', e'⟩
      obtain ⟨y, hy, ey⟩ := this hits hz
      exact st2.A p hp y (List.mem_append_left _ hy) (e.trans ey.symm)
    have n4 : ∀ p ∈ M2, ∀ z ∈ ws, p.1 ≠ z.1 := fun p hp z hz e => by obtain ⟨y, hy, ey⟩ := addr p hp; exact w2 y hy z hz (ey.trans e)
    refine ⟨h', tk', m', M2 ++ news', rfl, st2.F, by have := st2.N; rw [List.append_assoc] at this; exact this, fun p hp y hy => ?_, subL_of fun p hp => List.mem_append_right _ (sb2 p (hk p hp)), ?_⟩
    · obtain ⟨z, hz, ez⟩ := ia y hy
      rw [ez]
      rcases List.mem_append.mp hp with hp | hp
      · exact n4 p hp z hz
      · exact n3 p hp z hz
    · refine items_rest ok ow q r xs bss ρ' m' M2 news' (hx.up sb2) hN (hk.tr sb2) ⟨lo2.kof, fun x a hl => ?_, lo2.ap, fun x b hb => ?_, lo2.hc⟩ (fun p hp y hy => st2.A p hp y (List.mem_append_right _ hy)) n3 n4 (mv.tr mv3) (sb.tr sb2)
      · rcases lo2.nm x a hl with l | ⟨k, b, o, v, e1, e2, e3, i⟩
        · exact .inl l
        · refine .inr ⟨k, b, o, v, e1, ?_, e3, i⟩
          rcases List.mem_append.mp e2 with e2 | e2
          · exact absurd rfl (cellM x b e1 _ e2)
          · exact e2
      · obtain ⟨own, o, rest, v₀, er, hd, o1, o2⟩ := lo2.nd x b hb
        obtain ⟨own2, er2, o3⟩ := nd_tail er (cellM x b hb) o1
        exact ⟨own2, o, rest, v₀, er2, hd, o3, o2⟩
end
section
variable {w : World} {d : Nat} {kd : Str → Option NameKind} {ρ : List (Str × AV)}
theorem itms_vals {target : PySem.Expr} {news : Led} {b : AV → List (Str × AV)} : ∀ {vs : List Value} {l : List AV}, Alls w news vs l → (∀ v a, a ∈ l → Is w news v a → ItmOK w kd target news (.val v) (b a)) → ItmsOK w kd target news (vs.map .val) (l.map b)
  | _, _, .nil, _ => .nil
  | _, _, .cons h hs, k => .cons (k _ _ (.head _) h) (itms_vals hs fun v a ha i => k v a (.tail _ ha) i)
theorem Ex1.forV {target iter : PySem.Expr} {body : List Stmt} {pos : Pos} {l : List AV} {b : AV → List (Str × AV)} {N : List (Str × AV) → Prop} {R : AV → Prop} (h : Ev w d kd ρ iter (· = .lst l)) (hb : ∀ news v a, a ∈ l → Is w news v a → ItmOK w kd target news (.val v) (b a)) (hf : Fors w d kd body R (l.map b) ρ N)
    (hs : ∀ env x, foldedSetIterable iter env x = pure x := by intro _ _; with_unfolding_all rfl) : Ex1 w d kd ρ (.For target iter body [] pos) N R := fun c m M news s Q E ok ow st lo q r =>
  For_turns (env := c.env) (h₀ := c.h₀) st.F (h c c.env m M news s _ E ok st (lo.sees ok.hk) fun v a' h' tk' n' st' sb p i => by
    subst p
    cases i with | lst hm hs =>
    refine iter_listTurns rfl st'.F st'.N (st'.mem hm) rfl rfl fun I lt => ?_
    exact items_rest (s := { s with heap := h', toks := tk' }) (N := N) (R := R) (M₀ := M) (n₀ := n') (keep := [(_, listOf _ _)]) (ws := [(I, "list_iterator")]) ok ow (fun ρ2 m2 M2 h2 tk2 n2 st2 lo2 mv2 sb2 hN => q ρ2 m2 M2 h2 tk2 n2 st2 lo2 mv2 (sb.tr sb2) hN) (fun v a m2 M2 h2 tk2 n2 st2 sb2 hR i => r v a m2 M2 h2 tk2 n2 st2 (sb.tr sb2) hR i) _ _ ρ m M n' (itms_vals hs fun v a ha i => hb _ v a ha i) hf (fun p hp => by rw [List.mem_singleton.mp hp]; exact hm) (lo.up sb) st'.A
      (fun p hp z hz => by rw [List.mem_singleton.mp hz]; exact Nat.ne_of_lt (lt p (List.mem_append_right _ hp))) (fun p hp z hz => by rw [List.mem_singleton.mp hz]; exact Nat.ne_of_lt (lt p (List.mem_append_left _ hp))) Mv.rfl' Sub.rfl') (hs _) ow
/-- for x in a list -/
theorem Ex1.forL {x : Str} {px pos : Pos} {iter : PySem.Expr} {body : List Stmt} {l : List AV} {N : List (Str × AV) → Prop} {R : AV → Prop} (h : Ev w d kd ρ iter (· = .lst l)) (hl : kd x = some .local) (hf : Fors w d kd body R (l.map fun a => [(x, a)]) ρ N)
    (hs : ∀ env x, foldedSetIterable iter env x = pure x := by intro _ _; with_unfolding_all rfl) : Ex1 w d kd ρ (.For (.Name x px) iter body [] pos) N R := .forV h (fun _ _ _ _ i => .name hl i) hf hs
theorem Ex1.forM {α : Type} {x : Str} {px pos : Pos} {iter : PySem.Expr} {body : List Stmt} {l : List α} {g : α → AV} {N : List (Str × AV) → Prop} {R : AV → Prop} (h : Ev w d kd ρ iter (· = .lst (l.map g))) (hl : kd x = some .local) (hf : Fors w d kd body R (l.map fun a => [(x, g a)]) ρ N)
    (hs : ∀ env x, foldedSetIterable iter env x = pure x := by intro _ _; with_unfolding_all rfl) : Ex1 w d kd ρ (.For (.Name x px) iter body [] pos) N R := .forL h hl (by rw [List.map_map]; exact hf) hs
/-- for x, y in a list of tuples -/
noncomputable def tupB (xs : List (Str × Pos)) (a : AV) : List (Str × AV) := match a with
  | .tup l => bindA xs l []
  | _ => []
theorem Ex1.forT {xs : List (Str × Pos)} {k : Nat} {tp pos : Pos} {iter : PySem.Expr} {body : List Stmt} {ls : List (List AV)} {N : List (Str × AV) → Prop} {R : AV → Prop} (h : Ev w d kd ρ iter (· = .lst (ls.map .tup))) (hl : ∀ x ∈ xs, kd x.1 = some .local) (hn : ∀ l ∈ ls, xs.length = l.length) (hf : Fors w d kd body R ((ls.map .tup).map (tupB xs)) ρ N)
    (hs : ∀ env x, foldedSetIterable iter env x = pure x := by intro _ _; with_unfolding_all rfl) : Ex1 w d kd ρ (.For (.Tuple (nmE xs) k tp) iter body [] pos) N R := .forV h (fun _ _ a ha i => by
  obtain ⟨l, hl', rfl⟩ := List.mem_map.mp ha
  exact .tup hl (hn l hl') i) hf hs
theorem itms_zip {x y : Str} {px py : Pos} {k : Nat} {tp : Pos} {news : Led} (hx : kd x = some .local) (hy : kd y = some .local) : ∀ {vs us : List Value} {l r : List AV}, Alls w news vs l → Alls w news us r → ItmsOK w kd (.Tuple [.Name x px, .Name y py] k tp) news (zipItems vs us) ((l.zip r).map fun p => [(y, p.2), (x, p.1)])
  | _, _, _, _, .nil, _ => .nil
  | _, _, _, _, .cons _ _, .nil => .nil
  | _, _, _, _, .cons h hs, .cons j js => .cons (.pair hx hy (fun _ => h) j) (itms_zip hx hy hs js)
/-- for x, y in zip(a list, a list) -/
theorem Ex1.forZ {x y z : Str} {px py pz cp pos : Pos} {k : Nat} {tp : Pos} {a b : PySem.Expr} {body : List Stmt} {l r : List AV} {N : List (Str × AV) → Prop} {R : AV → Prop} (hz : Ev w d kd ρ (.Name z pz) (· = .val (.type "zip"))) (ha : Evs w d kd ρ [a, b] (· = [.lst l, .lst r])) (hx : kd x = some .local) (hy : kd y = some .local) (hf : Fors w d kd body R ((l.zip r).map fun p => [(y, p.2), (x, p.1)]) ρ N)
    (k1 : ∀ env, starEach [a, b] env = (false, eval a env) :: starEach [b] env := by intro _; with_unfolding_all rfl) (k2 : ∀ env, ((backTo cp (starEach [b] env)).any fun x => x.1) = false := by intro _; with_unfolding_all rfl)
    (hs : ∀ env v, foldedSetIterable (.Call (.Name z pz) [a, b] [] cp) env v = pure v := by intro _ _; with_unfolding_all rfl) : Ex1 w d kd ρ (.For (.Tuple [.Name x px, .Name y py] k tp) (.Call (.Name z pz) [a, b] [] cp) body [] pos) N R := by
  intro c m M news s Q E ok ow st lo q rt
  refine For_turns (env := c.env) (h₀ := c.h₀) st.F (Call_ (hz c c.env m M news s _ E ok st (lo.sees ok.hk) fun v a' h' tk' n' st' sb p i => ?_)) (hs _) ow
  subst p
  cases i
  refine PySem.Pv.callWith_type1 (ha cp c c.env m M n' _ _ E ok st' ((lo.up sb).sees ok.hk) fun vs l' h2 tk2 n2 st2 sb2 p2 al => ?_) (k1 _) (k2 _)
  subst p2
  obtain ⟨u, v, rfl, i1, i2⟩ := al.inv2
  cases i1 with | lst hm1 hs1 =>
  cases i2 with | lst hm2 hs2 =>
  refine ktu_zip (env := c.env) (h₀ := c.h₀) rfl st2.F st2.N (st2.mem hm1) rfl rfl (st2.mem hm2) rfl rfl fun I lt => ?_
  refine items_rest (s := { s with heap := h2, toks := tk2 }) (N := N) (R := R) (M₀ := M) (n₀ := n2) ok ow (fun ρ2 m2 M2 h2 tk2 n3 st2 lo2 mv2 sb3 hN => q ρ2 m2 M2 h2 tk2 n3 st2 lo2 mv2 ((sb.tr sb2).tr sb3) hN) (fun v a m2 M2 h2 tk2 n3 st2 sb3 hR i => rt v a m2 M2 h2 tk2 n3 st2 ((sb.tr sb2).tr sb3) hR i) _ _ ρ m M n2 (itms_zip hx hy hs1 hs2) hf ?_ (lo.up (sb.tr sb2)) st2.A ?_ ?_ Mv.rfl' Sub.rfl'
  · intro p hp
    rcases List.mem_cons.mp hp with rfl | hp
    · exact hm1
    · rw [List.mem_singleton.mp hp]; exact hm2
  · intro p hp z hz
    have := lt p (List.mem_append_right _ hp)
    simp only [List.mem_cons, List.not_mem_nil, or_false] at hz
    rcases hz with rfl | rfl | rfl | rfl | rfl <;> first | exact Nat.ne_of_lt this | exact Nat.ne_of_lt (Nat.lt_of_lt_of_le this (Nat.le_add_right _ _))
  · intro p hp z hz
    have := lt p (List.mem_append_left _ hp)
    simp only [List.mem_cons, List.not_mem_nil, or_false] at hz
    rcases hz with rfl | rfl | rfl | rfl | rfl <;> first | exact Nat.ne_of_lt this | exact Nat.ne_of_lt (Nat.lt_of_lt_of_le this (Nat.le_add_right _ _))
theorem Fors.fold {α β : Type} {body : List Stmt} {R : AV → Prop} {bs : α → List (Str × AV)} {step : β → α → β} {Inv : β → List (Str × AV) → Prop} : ∀ (l : List α) (y : β) (ρ : List (Str × AV)), (∀ a ∈ l, ∀ y ρ, Inv y ρ → Ex w d kd (bs a ++ ρ) body (Inv (step y a)) R) → Inv y ρ → Fors w d kd body R (l.map bs) ρ (Inv (l.foldl step y))
  | [], _, _, _, h => h
  | a :: l, y, ρ, k, h => (k a (.head _) y ρ h).imp (fun ρ' h' => Fors.fold l _ ρ' (fun a ha => k a (.tail _ ha)) h') fun _ x => x
end
/- comprehensions -/
section
variable {w : World} {d : Nat} {kd : Str → Option NameKind} {ρ : List (Str × AV)}
open PyProof.Rows.LCg PyProof.Rows.LCt
/-- the names' kinds in a comprehension's block -/
noncomputable def relK (kd : Str → Option NameKind) (sc : Scope) : Str → Option NameKind := fun y => (sc.names.map fun (n, k) => if (k == .free && kd n == some .cell) then (n, NameKind.cell) else (n, k)).lookup y
noncomputable def okSc (sc : Scope) (x : Str) : Bool := sc.names.all (fun y => y.2 != .cell) && (sc.names.all (fun y => y.2 != .local || sc.names.lookup y.1 == some .local) && (sc.names.lookup x == some .local && sc.kind == .function))
theorem okSc_at {sc : Scope} {x : Str} (h : okSc sc x = true) : (∀ y ∈ sc.names, y.2 ≠ .cell) ∧ (∀ y ∈ sc.names, y.2 = .local → sc.names.lookup y.1 = some .local) ∧ sc.names.lookup x = some .local ∧ sc.kind = .function := by
  unfold okSc at h
  simp only [Bool.and_eq_true, List.all_eq_true, bne_iff_ne, ne_eq, Bool.or_eq_true, beq_iff_eq] at h
  exact ⟨h.1, fun y hy e => (h.2.1 y hy).elim (fun n => absurd e n) id, h.2.2.1, h.2.2.2⟩
theorem relK_env {env : Env} {sc : Scope} {cl : List (Str × Addr)} {C : Addr} (hk : env.scope.kind = .function) (he : env.kindOf = kd) : (compEnvC sc cl C env).kindOf = relK kd sc := by
  funext y
  show ((relabel sc env).names).lookup y = _
  unfold relabel relK
  rw [hk, he]
  congr 1
  refine List.map_congr_left fun p _ => ?_
  obtain ⟨n, k⟩ := p
  simp
theorem relK_local {sc : Scope} {x : Str} (h : sc.names.lookup x = some .local) : relK kd sc x = some .local := by
  have : ∀ names : List (Str × NameKind), names.lookup x = some .local → (names.map fun (n, k) => if (k == .free && kd n == some .cell) then (n, NameKind.cell) else (n, k)).lookup x = some .local := by
    intro names
    induction names with
    | nil => intro h; cases h
    | cons p r ih =>
      intro h
      obtain ⟨n, k⟩ := p
      rw [List.lookup_cons] at h
      rw [List.map_cons]
      cases hx : x == n with
      | true =>
        rw [hx] at h; cases h
        simp [List.lookup_cons, hx]
      | false =>
        rw [hx] at h
        dsimp only
        split <;> (rw [List.lookup_cons, hx]; exact ih h)
  exact this _ h
theorem closure_one {sc : Scope} {y : Str} {env : Env} {q : Addr} (h : env.cells.lookup y = some q) (hs : sc.names.filter (fun p => p.2 == .free) = [(y, .free)]) : closureFor sc env = pure [(y, q)] := by
  have hq : cellOf env y = pure q := by unfold cellOf; rw [h]
  unfold closureFor
  generalize sc.names = names at hs
  have key : ∀ (names : List (Str × NameKind)) (cs : List (Str × Addr)), (∀ p ∈ names, (p.2 == .free) = false) → (forIn names cs (fun (x : Str × NameKind) (r : List (Str × Addr)) => (match x with | (name, kind) => (if (kind == .free) = true then (do let a ← cellOf env name; pure (ForInStep.yield ((name, a) :: r))) else pure (ForInStep.yield r) : Sem (ForInStep (List (Str × Addr)))))) : Sem (List (Str × Addr))) = pure cs := by
    intro names
    induction names with
    | nil => intro cs _; rfl
    | cons p r ih =>
      intro cs hp
      obtain ⟨n, k⟩ := p
      have hk : (k == .free) = false := hp (n, k) (.head _)
      rw [List.forIn_cons]
      simp only [hk]
      exact ih cs fun p hp' => hp p (.tail _ hp')
  have main : ∀ (names : List (Str × NameKind)), names.filter (fun p => p.2 == .free) = [(y, .free)] → (forIn names [] (fun (x : Str × NameKind) (r : List (Str × Addr)) => (match x with | (name, kind) => (if (kind == .free) = true then (do let a ← cellOf env name; pure (ForInStep.yield ((name, a) :: r))) else pure (ForInStep.yield r) : Sem (ForInStep (List (Str × Addr)))))) : Sem (List (Str × Addr))) = pure [(y, q)] := by
    intro names
    induction names with
    | nil => intro h; cases h
    | cons p r ih =>
      intro hs
      obtain ⟨n, k⟩ := p
      rw [List.forIn_cons]
      cases hk : (k == .free) with
      | false =>
        rw [List.filter_cons_of_neg (by simp [hk])] at hs
        simp only [hk]
        exact ih hs
      | true =>
        rw [List.filter_cons_of_pos (by simp [hk])] at hs
        obtain ⟨e1, e2⟩ := List.cons.inj hs
        cases e1
        simp only [hk, if_true, hq]
        exact key r _ fun p hp => by
          cases hz : (p.2 == NameKind.free) with
          | false => rfl
          | true =>
            have := (List.mem_filter (p := fun p : Str × NameKind => p.2 == NameKind.free)).mpr ⟨hp, hz⟩
            rw [e2] at this; cases this
  exact Eq.trans (congrArg (fun t : Sem (List (Str × Addr)) => t >>= fun s => pure s) (main names hs)) rfl
/-- what a block of a comprehension sees -/
theorem sees_comp {env : Env} {c : Ctx} {m m₂ : Str → Option Value} {M news : Led} {sc : Scope} {cl : List (Str × Addr)} {x : Str} {a : AV} {v : Value} {κ : List (Str × AV)} {I C D : Addr} {oI oC oD : Obj} (se : Sees w kd ρ env c m M news) (hsk : sc.kind = .function) (hx : sc.names.lookup x = some .local) (hoC : NsObj oC m₂) (hv : m₂ x = some v) (i : Is w news v a)
    (hκ : ∀ y b, Lk κ y b → relK kd sc y = some .cell ∧ ∃ q o v, cl.lookup y = some q ∧ (q, o) ∈ M ∧ o.data = .cell (some v) ∧ Is w news v b) : Sees w (relK kd sc) ((x, a) :: κ) (compEnvC sc cl C env) c m ((I, oI) :: (C, oC) :: (D, oD) :: M) news :=
  ⟨relK_env se.kind se.kof, hsk, se.gl, se.bl, m₂, fun h _ N => hoC.ns (N (C, oC) (List.mem_append_left _ (.tail _ (.head _)))).1, fun y b hy => by
    cases hy with
    | hd => exact .inl ⟨relK_local hx, v, hv, i⟩
    | tl _ hy =>
      obtain ⟨k, q, o, u, e1, e2, e3, j⟩ := hκ y b hy
      exact .inr ⟨k, q, o, u, e1, .tail _ (.tail _ (.tail _ e2)), e3, j⟩⟩
theorem st_comp {c : Ctx} {m : Str → Option Value} {M news : Led} {h : Heap} {I C D : Addr} {oI oC oD : Obj} (F : Fr c.h₀ c.L h m) (N : News c.h₀ c.L h ((I, oI) :: (C, oC) :: (D, oD) :: (M ++ news))) (off : Off3 I C D (M ++ news)) (ap : Ap M news) : St c m ((I, oI) :: (C, oC) :: (D, oD) :: M) news h := ⟨F, N, fun p hp y hy => by
  have o := off.mem p (List.mem_append_right _ hp)
  rcases List.mem_cons.mp hy with rfl | hy
  · exact o.1
  · rcases List.mem_cons.mp hy with rfl | hy
    · exact o.2.1
    · rcases List.mem_cons.mp hy with rfl | hy
      · exact o.2.2
      · exact ap p hp y hy⟩
theorem off_comp {c : Ctx} {m : Str → Option Value} {M news news' : Led} {h : Heap} {I C D : Addr} {oI oC oD : Obj} (off : Off3 I C D (M ++ news)) (st : St c m ((I, oI) :: (C, oC) :: (D, oD) :: M) news' h) : Off3 I C D (M ++ news') := Off3.of fun p hp => by
  rcases List.mem_append.mp hp with hp | hp
  · exact off.mem p (List.mem_append_left _ hp)
  · exact ⟨st.A p hp _ (.head _), st.A p hp _ (.tail _ (.head _)), st.A p hp _ (.tail _ (.tail _ (.head _)))⟩
theorem st_out {c : Ctx} {m : Str → Option Value} {M news : Led} {h : Heap} {I C D : Addr} {oI oC oD : Obj} (st : St c m ((I, oI) :: (C, oC) :: (D, oD) :: M) news h) : Ap M news := fun p hp y hy => st.A p hp y (.tail _ (.tail _ (.tail _ hy)))
/-- the rest of a comprehension over a list -/
theorem comp_rest {c : Ctx} {env : Env} {m : Str → Option Value} {M : Led} {s : Shared} {elt : PySem.Expr} {x : Str} {sc : Scope} {cl : List (Str × Addr)} {its : Array Value} {ax : Addr} {nn : Nat} {α : Type} {l : List α} {g f : α → AV} {κ : List (Str × AV)} {Fin : List Value → Led → Prop} (ok : c.Ok w d) (hsk : sc.kind = .function) (hx : sc.names.lookup x = some .local)
    (hb : ∀ a ∈ l, Ev w d (relK kd sc) ((x, g a) :: κ) elt (· = f a)) (n₀ : Led)
    (fin : ∀ ys news, Ap M news → Sub n₀ news → Alls w news ys (l.map f) → Fin ys (M ++ news)) :
    ∀ (k i : Nat) (ys : List Value) (news : Led), i + k = l.length → (ax, listOf its nn) ∈ news → Alls w news its.toList (l.map g) → Alls w news ys ((l.take i).map f) → Sees w kd ρ env c m M news → Ap M news → Sub n₀ news →
      (∀ y b, Lk κ y b → relK kd sc y = some .cell ∧ ∃ q o v, cl.lookup y = some q ∧ (q, o) ∈ M ∧ o.data = .cell (some v) ∧ Is w news v b) →
      CompRest Pr w c.A c.h₀ c.L m env elt x sc cl s (SrcAt c.h₀ ax its) (fun i v => its[i]? = some v) Fin k i ys (M ++ news)
  | 0, i, ys, news, hn, hm, al, aly, se, ap, sb, hκ => by
    refine CompRest.zero (fin ys news ap sb ?_)
    rw [List.take_of_length_le (by omega)] at aly
    exact aly
  | k + 1, i, ys, news, hn, hm, al, aly, se, ap, sb, hκ => by
    refine CompRest.succ fun v I oI C oC D m₂ h tk E' hv hoC hxv F N off ne => ?_
    obtain ⟨a', ha', ia⟩ := al.getV i (v := v) (by rw [Array.getElem?_toList]; exact hv)
    rw [List.getElem?_map] at ha'
    obtain ⟨a, ha, ea⟩ := Option.map_eq_some_iff.mp ha'
    subst ea
    have hmem : a ∈ l := List.mem_of_getElem? ha
    refine hb a hmem c (compEnvC sc cl C env) m ((I, oI) :: (C, oC) :: (D, lst ys) :: M) news { s with heap := h, toks := tk } _ E' ok (st_comp F N off ap) (sees_comp se hsk hx hoC hxv ia hκ) fun y b h' tk' n' st' sb' p ib => ?_
    subst p
    refine ⟨h', tk', M ++ n', rfl, st'.F, st'.N, off_comp off st', .inr ⟨_, List.mem_append_right _ (sb' _ hm), rfl, nn, rfl⟩, ?_⟩
    refine comp_rest ok hsk hx hb n₀ fin k (i + 1) (ys ++ [y]) n' (by omega) (sb' _ hm) (al.up sb') ?_ (se.up sb') (st_out st') (sb.tr sb') fun y b hy => by obtain ⟨k, q, o, u, e1, e2, e3, j⟩ := hκ y b hy; exact ⟨k, q, o, u, e1, e2, e3, j.up sb'⟩
    rw [List.take_add_one, ha, List.map_append]
    exact (aly.up sb').app (.one ib)
theorem st_fin {c : Ctx} {m : Str → Option Value} {M news : Led} {h : Heap} {D : Addr} {ys : List Value} (F : Fr c.h₀ c.L h m) (N : News c.h₀ c.L h ((D, lst ys) :: (M ++ news))) (off : Off1 D (M ++ news)) (ap : Ap M news) : St c m M ((D, lst ys) :: news) h := by
  have o : ∀ {l : Led}, Off1 D l → ∀ p ∈ l, p.1 ≠ D := by
    intro l
    induction l with
    | nil => intro _ p hp; cases hp
    | cons y r ih =>
      intro h p hp
      rcases List.mem_cons.mp hp with rfl | hp
      · exact h.1
      · exact ih h.2 p hp
  exact ⟨F, fun p hp => N p (by simp only [List.mem_append, List.mem_cons] at hp ⊢; rcases hp with h | h | h <;> simp [h]), fun p hp q hq => by
    rcases List.mem_cons.mp hp with rfl | hp
    · exact (o off q (List.mem_append_left _ hq)).symm
    · exact ap p hp q hq⟩
/-- [elt for x in iter], closing over nothing -/
theorem Ev.comp {elt iter : PySem.Expr} {x : Str} {px pos : Pos} {sc : Scope} {α : Type} {l : List α} {g f : α → AV} (hi : Ev w d kd ρ iter (· = .lst (l.map g))) (hsc : okSc sc x = true) (hz : l.length ≤ 1000) (hb : ∀ a ∈ l, Ev w d (relK kd sc) [(x, g a)] elt (· = f a))
    (hcl : ∀ env, closureFor sc env = pure [] := by intro _; with_unfolding_all rfl) (hs : ∀ env x, foldedSetIterable iter env x = pure x := by intro _ _; with_unfolding_all rfl) : Ev w d kd ρ (.ListComp elt [⟨.Name x px, iter, [], 0⟩] sc pos) (· = .lst (l.map f)) := by
  intro c env m M news s Q E ok st se q
  obtain ⟨h1, h2, h3, h4⟩ := okSc_at hsc
  refine ListComp_U st.F (hcl env) h1 h4 h2 h3 (hi c env m M news s _ E ok st se fun v a h' tk' n' st' sb p i => ?_) (hs env)
  subst p
  cases i with | lst hm al =>
  refine CompSrc.ledger rfl st'.F st'.N (st'.mem hm) (by rw [List.size_toArray, al.length, List.length_map, sizeLine_eq]; omega) fun hp => ?_
  refine comp_rest ok h4 h3 hb n' (fun ys n2 ap sb2 aly D h tk F N o1 => q _ _ _ _ _ (st_fin F N o1 ap) ((sb.tr sb2).tr Sub.cons') rfl (.lst (.head _) (aly.up Sub.cons'))) _ 0 [] n' (by rw [List.size_toArray, al.length, List.length_map]; omega) hm (by rw [List.toList_toArray]; exact al) (by simpa using Alls.nil) (se.up sb) st'.A Sub.rfl' (fun y b hy => nomatch hy)
/-- [elt for x in iter], closing over the name y -/
theorem Ev.comp1 {elt iter : PySem.Expr} {x y : Str} {px pos : Pos} {sc : Scope} {α : Type} {l : List α} {g f : α → AV} {b : AV} (hi : Ev w d kd ρ iter (· = .lst (l.map g))) (hsc : okSc sc x = true) (hz : l.length ≤ 1000) (hy : Lk ρ y b) (hky : kd y = some .cell) (hry : relK kd sc y = some .cell) (hb : ∀ a ∈ l, Ev w d (relK kd sc) [(x, g a), (y, b)] elt (· = f a))
    (hcl : ∀ (env : Env) (q : Addr), env.cells.lookup y = some q → closureFor sc env = pure [(y, q)]) (hs : ∀ env x, foldedSetIterable iter env x = pure x := by intro _ _; with_unfolding_all rfl) : Ev w d kd ρ (.ListComp elt [⟨.Name x px, iter, [], 0⟩] sc pos) (· = .lst (l.map f)) := by
  intro c env m M news s Q E ok st se q
  obtain ⟨h1, h2, h3, h4⟩ := okSc_at hsc
  obtain ⟨mm, _, nm⟩ := se.nm
  obtain ⟨k, _⟩ | ⟨_, z, o, u, e1, e2, e3, j⟩ := nm y b hy
  · rw [hky] at k; cases k
  have hc := hcl env z e1
  refine ListComp_U st.F hc h1 h4 h2 h3 (hi c env m M news s _ E ok st se fun v a h' tk' n' st' sb p i => ?_) (hs env)
  subst p
  cases i with | lst hm al =>
  refine CompSrc.ledger rfl st'.F st'.N (st'.mem hm) (by rw [List.size_toArray, al.length, List.length_map, sizeLine_eq]; omega) fun hp => ?_
  refine comp_rest ok h4 h3 hb n' (fun ys n2 ap sb2 aly D h tk F N o1 => q _ _ _ _ _ (st_fin F N o1 ap) ((sb.tr sb2).tr Sub.cons') rfl (.lst (.head _) (aly.up Sub.cons'))) _ 0 [] n' (by rw [List.size_toArray, al.length, List.length_map]; omega) hm (by rw [List.toList_toArray]; exact al) (by simpa using Alls.nil) (se.up sb) st'.A Sub.rfl' (fun y' b' hy' => by
    cases hy' with
    | hd => exact ⟨hry, z, o, u, by rw [List.lookup_cons]; simp, e2, e3, j.up sb⟩
    | tl _ h => cases h)
/-- z = [elt for x in iter], closing over nothing -/
theorem swaps_comp {elt iter : PySem.Expr} {x z : Str} {px pz pos : Pos} {sc : Scope} {n : Nat} {env : Env} (hk : env.scope.kind = .function) (hl : env.kindOf z = some .local) (h : (pz.line == pos.line && !(sc.names.any fun y => y.1 == z && (y.2 == .local || y.2 == .cell))) = true) : swapsWith (.ListComp elt [⟨.Name x px, iter, [], 0⟩] sc pos) (some (.Name z pz)) n env = pure true := by
  show (pure (env.blockKind == .function && env.kindOf z == some .local && pz.line == pos.line && !(sc.names.any fun y => y.1 == z && (y.2 == .local || y.2 == .cell))) : Sem Bool) = pure true
  rw [Bool.and_assoc, h, hl, show env.blockKind = .function by unfold Env.blockKind; rw [hk]; rfl]
  rfl
theorem Ex1.comp {elt iter : PySem.Expr} {x z : Str} {px pz pos sp : Pos} {sc : Scope} {α : Type} {l : List α} {g f : α → AV} {R : AV → Prop} (hi : Ev w d kd ρ iter (· = .lst (l.map g))) (hsc : okSc sc x = true) (hz : l.length ≤ 1000) (hb : ∀ a ∈ l, Ev w d (relK kd sc) [(x, g a)] elt (· = f a)) (hl : kd z = some .local := by kernel_rfl)
    (hcl : ∀ env, closureFor sc env = pure [] := by intro _; with_unfolding_all rfl) (hs : ∀ env x, foldedSetIterable iter env x = pure x := by intro _ _; with_unfolding_all rfl)
    (hsw : (pz.line == pos.line && !(sc.names.any fun y => y.1 == z && (y.2 == .local || y.2 == .cell))) = true := by kernel_rfl) : Ex1 w d kd ρ (.Assign [.Name z pz] (.ListComp elt [⟨.Name x px, iter, [], 0⟩] sc pos) sp) (· = (z, .lst (l.map f)) :: ρ) R := by
  intro c m M news s Q E ok ow st lo q r
  obtain ⟨h1, h2, h3, h4⟩ := okSc_at hsc
  have se := lo.sees ok.hk
  have hlz : c.env.kindOf z = some .local := by rw [lo.kof]; exact hl
  refine Assign_ListComp_U st.F rfl (swaps_comp ok.hk hlz hsw) (hcl c.env) h1 h4 h2 h3 hlz (by show (c.cs.kind == .class || (c.cs.kind == .module && c.L != mainGlobals)) = false; rw [ok.hk]; rfl) (hi c c.env m M news s _ E ok st se fun v a h' tk' n' st' sb p i => ?_) (hs c.env)
  subst p
  cases i with | lst hm al =>
  refine CompSrc.ledger rfl st'.F st'.N (st'.mem hm) (by rw [List.size_toArray, al.length, List.length_map, sizeLine_eq]; omega) fun hp => ?_
  refine comp_rest ok h4 h3 hb n' (fun ys n2 ap sb2 aly D h tk F N o1 => ?_) _ 0 [] n' (by rw [List.size_toArray, al.length, List.length_map]; omega) hm (by rw [List.toList_toArray]; exact al) (by simpa using Alls.nil) (se.up sb) st'.A Sub.rfl' (fun y b hy => nomatch hy)
  exact q _ _ _ _ _ _ (st_fin F N o1 ap) ((lo.up ((sb.tr sb2).tr Sub.cons')).setL hl (.lst (.head _) (aly.up Sub.cons'))) Mv.rfl' ((sb.tr sb2).tr Sub.cons') rfl
/-- the rest of a comprehension with a test -/
theorem comp_restT {c : Ctx} {env : Env} {m : Str → Option Value} {M : Led} {s : Shared} {ct elt : PySem.Expr} {x : Str} {sc : Scope} {cl : List (Str × Addr)} {its : Array Value} {ax : Addr} {nn : Nat} {α : Type} {l : List α} {g f : α → AV} {t : α → Bool} {κ : List (Str × AV)} {Fin : List Value → Led → Prop} (ok : c.Ok w d) (hsk : sc.kind = .function) (hx : sc.names.lookup x = some .local)
    (ht : ∀ a ∈ l, Ts w d (relK kd sc) ((x, g a) :: κ) ct (· = t a)) (hb : ∀ a ∈ l, t a = true → Ev w d (relK kd sc) ((x, g a) :: κ) elt (· = f a)) (n₀ : Led)
    (fin : ∀ ys news, Ap M news → Sub n₀ news → Alls w news ys ((l.filter t).map f) → Fin ys (M ++ news)) :
    ∀ (k i : Nat) (ys : List Value) (news : Led), i + k = l.length → (ax, listOf its nn) ∈ news → Alls w news its.toList (l.map g) → Alls w news ys (((l.take i).filter t).map f) → Sees w kd ρ env c m M news → Ap M news → Sub n₀ news →
      (∀ y b, Lk κ y b → relK kd sc y = some .cell ∧ ∃ q o v, cl.lookup y = some q ∧ (q, o) ∈ M ∧ o.data = .cell (some v) ∧ Is w news v b) →
      CompRestT Pr w c.A c.h₀ c.L m env ct elt x sc cl s (SrcAt c.h₀ ax its) (fun i v => its[i]? = some v) Fin k i ys (M ++ news)
  | 0, i, ys, news, hn, hm, al, aly, se, ap, sb, hκ => by
    refine CompRestT.zero (fin ys news ap sb ?_)
    rw [List.take_of_length_le (by omega)] at aly
    exact aly
  | k + 1, i, ys, news, hn, hm, al, aly, se, ap, sb, hκ => by
    refine CompRestT.succ fun v I oI C oC D m₂ h tk E' hv hoC hxv F N off ne => ?_
    obtain ⟨a', ha', ia⟩ := al.getV i (v := v) (by rw [Array.getElem?_toList]; exact hv)
    rw [List.getElem?_map] at ha'
    obtain ⟨a, ha, ea⟩ := Option.map_eq_some_iff.mp ha'
    subst ea
    have hmem : a ∈ l := List.mem_of_getElem? ha
    refine ht a hmem c (compEnvC sc cl C env) m ((I, oI) :: (C, oC) :: (D, lst ys) :: M) news { s with heap := h, toks := tk } _ E' ok (st_comp F N off ap) (sees_comp se hsk hx hoC hxv ia hκ) fun b h' tk' n' st' sb' p => ?_
    subst p
    have hκ' : ∀ {n2 : Led}, Sub n' n2 → ∀ y b, Lk κ y b → relK kd sc y = some .cell ∧ ∃ q o v, cl.lookup y = some q ∧ (q, o) ∈ M ∧ o.data = .cell (some v) ∧ Is w n2 v b := fun sb2 y b hy => by obtain ⟨k, q, o, u, e1, e2, e3, j⟩ := hκ y b hy; exact ⟨k, q, o, u, e1, e2, e3, j.up (sb'.tr sb2)⟩
    cases e : t a with
    | true =>
      refine (if_pos rfl).mpr (hb a hmem e c (compEnvC sc cl C env) m ((I, oI) :: (C, oC) :: (D, lst ys) :: M) n' _ _ E' ok st' ((sees_comp se hsk hx hoC hxv ia hκ).up sb') fun y b h2 tk2 n2 st2 sb2 p ib => ?_)
      subst p
      refine ⟨h2, tk2, M ++ n2, rfl, st2.F, st2.N, off_comp off st2, .inr ⟨_, List.mem_append_right _ (sb2 _ (sb' _ hm)), rfl, nn, rfl⟩, ?_⟩
      refine comp_restT ok hsk hx ht hb n₀ fin k (i + 1) (ys ++ [y]) n2 (by omega) (sb2 _ (sb' _ hm)) (al.up (sb'.tr sb2)) ?_ (se.up (sb'.tr sb2)) (st_out st2) (sb.tr (sb'.tr sb2)) (hκ' sb2)
      rw [List.take_add_one, ha, List.filter_append, List.map_append]
      show Alls w n2 (ys ++ [y]) (((l.take i).filter t).map f ++ ([a].filter t).map f)
      rw [List.filter_cons_of_pos e]
      exact (aly.up (sb'.tr sb2)).app (.one ib)
    | false =>
      refine (if_neg (by simp)).mpr ⟨h', tk', M ++ n', rfl, st'.F, st'.N, off_comp off st', .inr ⟨_, List.mem_append_right _ (sb' _ hm), rfl, nn, rfl⟩, ?_⟩
      refine comp_restT ok hsk hx ht hb n₀ fin k (i + 1) ys n' (by omega) (sb' _ hm) (al.up sb') ?_ (se.up sb') (st_out st') (sb.tr sb') (hκ' Sub.rfl')
      rw [List.take_add_one, ha, List.filter_append, List.map_append]
      show Alls w n' ys (((l.take i).filter t).map f ++ ([a].filter t).map f)
      rw [List.filter_cons_of_neg (by rw [e]; decide)]
      show Alls w n' ys (((l.take i).filter t).map f ++ [])
      rw [List.append_nil]
      exact aly.up sb'
/-- [elt for x in iter if ct], closing over nothing -/
theorem Ev.compT {ct elt iter : PySem.Expr} {x : Str} {px pos : Pos} {sc : Scope} {α : Type} {l : List α} {g f : α → AV} {t : α → Bool} (hi : Ev w d kd ρ iter (· = .lst (l.map g))) (hsc : okSc sc x = true) (hz : l.length ≤ 1000) (ht : ∀ a ∈ l, Ts w d (relK kd sc) [(x, g a)] ct (· = t a)) (hb : ∀ a ∈ l, t a = true → Ev w d (relK kd sc) [(x, g a)] elt (· = f a))
    (hcl : ∀ env, closureFor sc env = pure [] := by intro _; with_unfolding_all rfl) (hs : ∀ env x, foldedSetIterable iter env x = pure x := by intro _ _; with_unfolding_all rfl) : Ev w d kd ρ (.ListComp elt [⟨.Name x px, iter, [ct], 0⟩] sc pos) (· = .lst ((l.filter t).map f)) := by
  intro c env m M news s Q E ok st se q
  obtain ⟨h1, h2, h3, h4⟩ := okSc_at hsc
  refine ListComp_T st.F (hcl env) h1 h4 h2 h3 (hi c env m M news s _ E ok st se fun v a h' tk' n' st' sb p i => ?_) (hs env)
  subst p
  cases i with | lst hm al =>
  refine CompSrcT.ledger rfl st'.F st'.N (st'.mem hm) (by rw [List.size_toArray, al.length, List.length_map, sizeLine_eq]; omega) fun hp => ?_
  refine comp_restT ok h4 h3 ht hb n' (fun ys n2 ap sb2 aly D h tk F N o1 => q _ _ _ _ _ (st_fin F N o1 ap) ((sb.tr sb2).tr Sub.cons') rfl (.lst (.head _) (aly.up Sub.cons'))) _ 0 [] n' (by rw [List.size_toArray, al.length, List.length_map]; omega) hm (by rw [List.toList_toArray]; exact al) (by simpa using Alls.nil) (se.up sb) st'.A Sub.rfl' (fun y b hy => nomatch hy)
end
/- a dict of texts, a device space, calls without arguments -/
section
variable {w : World} {d : Nat} {kd : Str → Option NameKind} {ρ : List (Str × AV)}
theorem Ev.call0 {x : Str} {p pos : Pos} {f : Addr} {P : AV → Prop} (hf : Ev w d kd ρ (.Name x p) (· = .val (.ref f))) (hk : keepIn (hd.heap_39 w.params) (.ref f) = true) (hF : Fn w d f [] P) : Ev w d kd ρ (.Call (.Name x p) [] [] pos) P := fun c env m M news s Q E ok st se q =>
  Call_ (hf c env m M news s _ E ok st se fun v a h' tk' n' st' sb p i => by
    subst p
    cases i
    exact callWith_K0 (first := []) (ok.X.keeps st'.F.keep) hk (hF c m M n' _ [] Q E ok st' .nil fun v a h3 tk3 n3 st3 sb3 => q v a h3 tk3 n3 st3 (sb.tr sb3)))
theorem strKind_str {x : Str} {t : Tok} : (strKind Pr w).is x (.str x t) = true := by
  show Value.isStrOf x (.str x t) = true
  simp [Value.isStrOf]
/-- a display of three texts and ints -/
theorem Ev.dict3 {a b c : Str} {i j k : Int} {ka kb kc na nb nc : Nat} {pa pb pc qa qb qc pos : Pos} (hn : [a, b, c].Nodup) : Ev w d kd ρ (.Dict [some (.Constant (.str a) ka pa), some (.Constant (.str b) kb pb), some (.Constant (.str c) kc pc)] [.Constant (.int i) na qa, .Constant (.int j) nb qb, .Constant (.int k) nc qc] pos)
    (· = .dct [(.str a, .int i), (.str b, .int j), (.str c, .int k)]) := by
  intro cx env m M news s Q E ok st se q
  refine Dict_made_str rfl st.F rfl rfl (by simp) (Nat.le_of_ble_eq_true rfl) fun F1 => ?_
  refine pairTrees_cons_walk (Constant_str (wpAny_Constant_int (pairTrees_cons_walk (Constant_str (wpAny_Constant_int (pairTrees_cons_walk (Constant_str (wpAny_Constant_int (pairTrees_nil_walk ?_)))))))))
  refine kdp_made_str st.F st.N ok.T.nolimit rfl hn rfl fun h' o F' N' lt hs hd hf _ => ?_
  refine q _ _ _ _ _ (st.push F' N' lt) Sub.cons' rfl (.dct (.head _) hs hd hf)
theorem Ev.ditem {o e : PySem.Expr} {pos : Pos} {D : List (PyData × PyData)} {x : Str} {i : Int} (ho : Ev w d kd ρ o (· = .dct D)) (he : Ev w d kd ρ e (· = .str x)) (hx : Spec.lookup (PyData.str x) D = some (.int i))
    (k1 : ∀ (b : Addr) (u : Tok), subscripted e false (.ref b) (.str x u) = operate [.ref b, .str x u] (getItem (.ref b) (.str x u)) := by intro _ _; with_unfolding_all rfl) : Ev w d kd ρ (.Subscript o e pos) (· = .int i) := fun c env m M news s Q E ok st se q =>
  Subscript_ (ho c env m M news s _ E ok st se fun v a' h' tk' n' st' sb p j => he c env m M n' _ _ E ok st' (se.up sb) fun u a2 h2 tk2 n2 st2 sb2 p2 j2 => by
    subst p; subst p2
    cases j2
    cases j.up sb2 with | dct hm hs h1 h2 =>
    have T := TabAt.ofNews st2.N (st2.mem hm) hs h1 h2
    refine tab_tail T (getItem_tab PyProof.V.same_str strKind_str T hx fun v fv => ?_) (k1 _ _)
    obtain ⟨t, rfl⟩ := PyProof.V.Flat.int_inv fv
    exact q _ _ _ _ _ st2 (sb.tr sb2) rfl (.int _ _))
theorem ItmOK.pairF {x y : Str} {px py : Pos} {k : Nat} {tp : Pos} {news : Led} {u : Str} {i : Int} (hx : kd x = some .local) (hy : kd y = some .local) : ItmOK w kd (.Tuple [.Name x px, .Name y py] k tp) news (.pairF (kyVal (.str u)) (.int i)) [(y, .int i), (x, .str u)] := by
  intro c m M n s ρ v' Q E hk sb st lo hi q
  obtain ⟨T, t, z, rfl, fz, ht⟩ := hi
  obtain ⟨t', rfl⟩ := PyProof.V.Flat.int_inv fz
  refine unpackN_ (elts := nmE [(x, px), (y, py)]) st.F st.N ht rfl rfl (ae_idx [(x, px), (y, py)]) fun h2 F2 N2 => ?_
  exact asg_names (l := [.str u, .int i]) hk [(x, px), (y, py)] (fun z hz => by
    rcases List.mem_cons.mp hz with rfl | hz
    · exact hx
    · rw [List.mem_singleton.mp hz]; exact hy) ⟨F2, N2, st.A⟩ lo (.cons (.str u t) (.one (.int i t'))) rfl fun m' h3 tk3 st3 lo3 => q _ _ _ st3 lo3
/-- the rows of a dict of texts and ints -/
noncomputable def dctL (l : List (Str × Int)) : List (PyData × PyData) := l.map fun p => (.str p.1, .int p.2)
theorem itms_dct {x y : Str} {px py : Pos} {k : Nat} {tp : Pos} {news : Led} (hx : kd x = some .local) (hy : kd y = some .local) : ∀ (l : List (Str × Int)), ItmsOK w kd (.Tuple [.Name x px, .Name y py] k tp) news ((dctL l).map fun p => Itm.pairF (kyVal p.1) p.2) (l.map fun p => [(y, .int p.2), (x, .str p.1)])
  | [] => .nil
  | p :: l => .cons (.pairF hx hy) (itms_dct hx hy l)
/-- for x, y in o.items() -/
theorem Ex1.forD {x y : Str} {px py ap cp pos : Pos} {k : Nat} {tp : Pos} {o : PySem.Expr} {body : List Stmt} {l : List (Str × Int)} {N : List (Str × AV) → Prop} {R : AV → Prop} (ho : Ev w d kd ρ o (· = .dct (dctL l))) (hx : kd x = some .local) (hy : kd y = some .local) (hf : Fors w d kd body R (l.map fun p => [(y, .int p.2), (x, .str p.1)]) ρ N)
    (k3 : ∀ env, ∃ pl, eval (.Call (.Attribute o (Str.ofString "items") ap) [] [] cp) env = (do let ov ← eval o env; standAt ap.atName; let (f, first) ← holding [ov] (getMethod ov (Str.ofString "items") pl); callWith cp f first (backTo cp (starEach [] env)) []) := by intro _; with_unfolding_all exact ⟨_, rfl⟩)
    (hs : ∀ env v, foldedSetIterable (.Call (.Attribute o (Str.ofString "items") ap) [] [] cp) env v = pure v := by intro _ _; with_unfolding_all rfl) : Ex1 w d kd ρ (.For (.Tuple [.Name x px, .Name y py] k tp) (.Call (.Attribute o (Str.ofString "items") ap) [] [] cp) body [] pos) N R := by
  intro c m M news s Q E ok ow st lo q rt
  obtain ⟨pl, hk3⟩ := k3 c.env
  refine For_turns (env := c.env) (h₀ := c.h₀) st.F (MethodCall_ (pl := pl) (ho c c.env m M news s _ E ok st (lo.sees ok.hk) fun v a' h' tk' n' st' sb p i => ?_) hk3) (hs _) ow
  subst p
  cases i with | dct hm hs h1 h2 =>
  have T := TabAt.ofNews st'.N (st'.mem hm) hs h1 h2
  refine getMethod_tab_any (id := "dict.items") (by with_unfolding_all rfl) T (callWith_method0 (kdx_view st'.F st'.N (st'.mem hm) h1 hs fun D h2' F2 N2 lt => ?_))
  have st2 := st'.push F2 N2 lt
  have T2 := TabAt.ofNews st2.N (st2.mem (.tail _ hm)) hs h1 h2
  refine kti_items (env := c.env) (h₀ := c.h₀) (od := _) rfl st2.F st2.N ⟨_, (st2.N _ (st2.mem (.head _))).1, rfl, rfl⟩ T2 (st2.mem (.tail _ hm)) (fun k v e => ?_) rfl fun I ltI => ?_
  · obtain ⟨t, rfl⟩ := Value.isStrOf_shape e
    exact ⟨t, rfl⟩
  · refine items_rest (s := { s with heap := h2', toks := tk' }) (N := N) (R := R) (M₀ := M) (n₀ := _) ok ow (fun ρ2 m2 M2 h2 tk2 n3 st2 lo2 mv2 sb3 hN => q ρ2 m2 M2 h2 tk2 n3 st2 lo2 mv2 ((sb.tr Sub.cons').tr sb3) hN) (fun v a m2 M2 h2 tk2 n3 st2 sb3 hR i => rt v a m2 M2 h2 tk2 n3 st2 ((sb.tr Sub.cons').tr sb3) hR i) _ _ ρ m M _ (itms_dct hx hy l) hf ?_ (lo.up (sb.tr Sub.cons')) st2.A ?_ ?_ Mv.rfl' Sub.rfl'
    · intro p hp
      rw [List.mem_singleton.mp hp]; exact .tail _ hm
    · intro p hp z hz
      rw [List.mem_singleton.mp hz]; exact Nat.ne_of_lt (ltI p (List.mem_append_right _ hp))
    · intro p hp z hz
      rw [List.mem_singleton.mp hz]; exact Nat.ne_of_lt (ltI p (List.mem_append_left _ hp))
/-- fields of a device space -/
theorem At.name {n : Str} {k : Int} : At w (.sp n k) (Str.ofString "name") (.str n) := by
  intro c m M news s v Q E X st i q
  cases i with | sp g1 g2 =>
  exact get_own (attr := none) st.F X (InstAt.of_news st.N (st.mem g1) (st.mem g2)) (by kernel_rfl) (by kernel_rfl) (by kernel_rfl) (by kernel_rfl) (by rfl) (by rfl) (q _ _ (.str _ _))
theorem At.count {n : Str} {k : Int} : At w (.sp n k) (Str.ofString "count") (.int k) := by
  intro c m M news s v Q E X st i q
  cases i with | sp g1 g2 =>
  exact get_own (attr := none) st.F X (InstAt.of_news st.N (st.mem g1) (st.mem g2)) (by kernel_rfl) (by kernel_rfl) (by kernel_rfl) (by kernel_rfl) (by rfl) (by rfl) (q _ _ (.int _ _))
end
/- while; equal trees -/
section
variable {w : World} {d : Nat} {kd : Str → Option NameKind} {ρ : List (Str × AV)}
theorem whl_rest {c : Ctx} {E : Value → Shared → Prop} {Q : Flow → Shared → Prop} {test : PySem.Expr} {body : List Stmt} {N : List (Str × AV) → Prop} {R : AV → Prop} {Inv : Nat → List (Str × AV) → Prop} {M₀ n₀ : Led} {g d0 os} (ok : c.Ok w d) (ow : PassesOwn (model Pr w) c.A c.env E)
    (turn : ∀ n ρ, Inv n ρ → ∃ T : Bool → Prop, Ts w d kd ρ test T ∧ (T true → Ex w d kd ρ body (fun ρ' => ∃ k, k < n ∧ Inv k ρ') R) ∧ (T false → N ρ))
    (q : ∀ ρ' m' M' h' tk' news', St c m' M' news' h' → Loc w kd ρ' c m' M' news' → Mv c M₀ M' → Sub n₀ news' → N ρ' → Q .next ⟨h', g, d0, tk', os⟩)
    (r : ∀ v a m' M' h' tk' news', St c m' M' news' h' → Sub n₀ news' → R a → Is w news' v a → Q (.ret v) ⟨h', g, d0, tk', os⟩) :
    ∀ (n : Nat) (ρ : List (Str × AV)) (m : Str → Option Value) (M news : Led) (h : Heap) (tk : Nat), Inv n ρ → St c m M news h → Loc w kd ρ c m M news → Mv c M₀ M → Sub n₀ news → ∀ k, WhlRest Pr w c.A E c.env test body [] Q (k + 1) ⟨h, g, d0, tk, os⟩ := by
  intro n
  induction n using Nat.strongRecOn with
  | _ n ih =>
  intro ρ m M news h tk hI st lo mv sb k
  obtain ⟨T, hT, hb, he⟩ := turn n ρ hI
  refine whl_turn ow (hT c c.env m M news _ _ E ok st (lo.sees ok.hk) fun b h2 tk2 n2 st2 sb2 p => ?_)
  cases b with
  | true =>
    refine WhlIf.yes rfl (hb p c m M n2 _ _ E ok ow st2 (lo.up sb2) (fun ρ' m' M' h' tk' news' st3 lo3 mv3 sb3 hN => ?_) fun v a m' M' h' tk' news' st3 sb3 hR i => r v a m' M' h' tk' news' st3 ((sb.tr sb2).tr sb3) hR i)
    obtain ⟨k', hk', hI'⟩ := hN
    have z := ih k' hk' ρ' m' M' news' h' tk' hI' st3 lo3 (mv.tr mv3) ((sb.tr sb2).tr sb3) k
    exact z
  | false => exact WhlIf.no rfl (wpAny_execs_nil (q ρ m M h2 tk2 n2 st2 (lo.up sb2) mv (sb.tr sb2) (he p)))
/-- while, by a measure -/
theorem Ex1.whl {test : PySem.Expr} {body : List Stmt} {pos : Pos} {N : List (Str × AV) → Prop} {R : AV → Prop} (Inv : Nat → List (Str × AV) → Prop) (n : Nat) (h0 : Inv n ρ)
    (turn : ∀ n ρ, Inv n ρ → ∃ T : Bool → Prop, Ts w d kd ρ test T ∧ (T true → Ex w d kd ρ body (fun ρ' => ∃ k, k < n ∧ Inv k ρ') R) ∧ (T false → N ρ)) : Ex1 w d kd ρ (.While test body [] pos) N R := fun c m M news s Q E ok ow st lo q r =>
  whl_start 1 (whl_rest ok ow turn (g := s.gens) (d0 := s.drawn) (os := s.os) q r n ρ m M news s.heap s.toks h0 st lo Mv.rfl' Sub.rfl' 0)
theorem Ev.cbts {b : List UInt8} {k : Nat} {pos : Pos} : Ev w d kd ρ (.Constant (.bytes b) k pos) (· = .bts b.toArray) := fun c env m M news s Q E ok st se q => Constant_bytes (q _ _ _ _ news st Sub.rfl' rfl (.bts _ _))
open PySem.SeqAt
theorem eqAt_bytes {A : Around} {s : Shared} (b : Array UInt8) (t u : Tok) : EqAt A s (.bytes b t) (.bytes b u) true := fun prog w E Q h => by
  unfold eqBool
  refine wpAny_holding ?_
  refine wpAny_ite_split (fun _ => ?_) (fun _ => ?_)
  · exact wpAny_bind (wpAny_rule (wpAny_pure h))
  · exact wpAny_bind (eq_bytes (Q := fun v s' => wpAny _ _ (truthOfDropped v) Q E s') (by rw [beq_self_eq_true]; exact wpAny_truthy_bool h))
theorem eqAt_str {A : Around} {s : Shared} (x : Str) (t u : Tok) : EqAt A s (.str x t) (.str x u) true := by have := EqAt.str_str (A := A) (s := s) x t x u; rwa [beq_self_eq_true] at this
theorem eqAt_int {A : Around} {s : Shared} (x : Int) (t u : Tok) : EqAt A s (.int x t) (.int x u) true := by have := EqAt.int_int (A := A) (s := s) x t x u; rwa [beq_self_eq_true] at this
theorem eqAt_tup {A : Around} {s : Shared} {a b : Addr} {xs ys : Array Value} (ha : s.heap.IsTuple a xs) (hb : s.heap.IsTuple b ys) (hu : A.units < cLine) (hs : xs.size = ys.size) (he : ∀ j (h1 : j < xs.size) (h2 : j < ys.size), EqAt A.in1 s xs[j] ys[j] true) :
    EqAt A s (.ref a) (.ref b) true := by
  by_cases h : a = b
  · subst h; exact EqAt.same _
  · have := EqAt.of_refs h (RcAt.tuples (e := fun _ => true) ha hb hu he)
    rw [hs] at this
    have z : ((List.range (min ys.size ys.size)).all (fun _ => true) && ys.size == ys.size) = true := by simp
    rwa [z] at this
/-- trees of numbers, texts and tuples -/
noncomputable def plainA : Nat → AV → Bool
  | _, .none => true
  | _, .int _ => true
  | _, .str _ => true
  | _, .bts _ => true
  | n + 1, .tup l => l.all (plainA n)
  | _, _ => false
theorem eq_same {s : Shared} {c : Ctx} {m : Str → Option Value} {M news : Led} (st : St c m M news s.heap) : ∀ (n : Nat) {A : Around} {v u : Value} {a : AV}, plainA n a = true → A.units + n < cLine → Is w news v a → Is w news u a → EqAt A s v u true := by
  intro n
  induction n with
  | zero =>
    intro A v u a hp hu i j
    cases a <;> simp only [plainA, Bool.false_eq_true] at hp
    · cases i; cases j; exact EqAt.same _
    · cases i; cases j; exact eqAt_int _ _ _
    · cases i; cases j; exact eqAt_str _ _ _
    · cases i; cases j; exact eqAt_bytes _ _ _
  | succ n ih =>
    intro A v u a hp hu i j
    cases a <;> simp only [plainA, Bool.false_eq_true] at hp
    · cases i; cases j; exact EqAt.same _
    · cases i; cases j; exact eqAt_int _ _ _
    · cases i; cases j; exact eqAt_str _ _ _
    · cases i with | tup h1 s1 =>
      cases j with | tup h2 s2 =>
      refine eqAt_tup (News.isTup st.N (st.mem h1)) (News.isTup st.N (st.mem h2)) (by omega) (by rw [List.size_toArray, List.size_toArray, s1.length, s2.length]) fun k k1 k2 => ?_
      obtain ⟨b, hb, ib⟩ := s1.getV k (v := _) (by rw [List.getElem?_eq_getElem (by simpa using k1)])
      obtain ⟨b', hb', ib'⟩ := s2.getV k (v := _) (by rw [List.getElem?_eq_getElem (by simpa using k2)])
      obtain rfl : b = b' := Option.some.inj (hb.symm.trans hb')
      exact ih (List.all_eq_true.mp hp _ (List.mem_of_getElem? hb)) (by show A.units + 1 + n < cLine; omega) ib ib'
    · cases i; cases j; exact eqAt_bytes _ _ _
theorem Do2.neL {l : List AV} (hp : l.all (plainA 20) = true) : Do2 w d (.lst l) (.lst l) (fun u v => compareOp .NotEq u v) (· = .bool false) := by
  intro c m M news s u v Q E ok st hu hv q
  cases hu with | lst h1 s1 =>
  cases hv with | lst h2 s2 =>
  have hun := ok.hu
  have z := (RcNeAt.lists (A := c.A) (e := fun _ => true) (st.list h1) (st.list h2) (by rw [List.size_toArray, List.size_toArray, s1.length, s2.length]) (by show c.un < cLine; omega) fun k k1 k2 => by
    obtain ⟨b, hb, ib⟩ := s1.getV k (v := _) (by rw [List.getElem?_eq_getElem (by simpa using k1)])
    obtain ⟨b', hb', ib'⟩ := s2.getV k (v := _) (by rw [List.getElem?_eq_getElem (by simpa using k2)])
    obtain rfl : b = b' := Option.some.inj (hb.symm.trans hb')
    exact eq_same st 20 (List.all_eq_true.mp hp _ (List.mem_of_getElem? hb)) (by show c.un + 1 + 20 < cLine; omega) ib ib')
  refine z Pr w E Q ?_
  rw [List.size_toArray, s1.length]
  have e : (!(List.range l.length).all fun _ => true) = false := by simp
  rw [e]
  exact q _ _ _ _ news st Sub.rfl' rfl (.bool _)
theorem Do2.neT {l : List AV} (hp : l.all (plainA 20) = true) : Do2 w d (.tup l) (.tup l) (fun u v => compareOp .NotEq u v) (· = .bool false) := by
  intro c m M news s u v Q E ok st hu hv q
  cases hu with | tup h1 s1 =>
  cases hv with | tup h2 s2 =>
  have hun := ok.hu
  have z := (RcNeAt.tuples (A := c.A) (e := fun _ => true) (News.isTup st.N (st.mem h1)) (News.isTup st.N (st.mem h2)) (by show c.un < cLine; omega) fun k k1 k2 => by
    obtain ⟨b, hb, ib⟩ := s1.getV k (v := _) (by rw [List.getElem?_eq_getElem (by simpa using k1)])
    obtain ⟨b', hb', ib'⟩ := s2.getV k (v := _) (by rw [List.getElem?_eq_getElem (by simpa using k2)])
    obtain rfl : b = b' := Option.some.inj (hb.symm.trans hb')
    exact eq_same st 20 (List.all_eq_true.mp hp _ (List.mem_of_getElem? hb)) (by show c.un + 1 + 20 < cLine; omega) ib ib')
  refine z Pr w E Q ?_
  rw [List.size_toArray, List.size_toArray, s1.length, s2.length]
  have e : (!((List.range (min l.length l.length)).all (fun _ => true) && l.length == l.length)) = false := by simp
  rw [e]
  exact q _ _ _ _ news st Sub.rfl' rfl (.bool _)
end
/- an exception of the program's own, made and filled by its own __init__, raised, left, caught -/
/-- an exception object as it is made, and when it has its dict -/
noncomputable abbrev excO (C t : Addr) : Obj := { cls := .ref C, data := .fields #[.ref t, .none, .none, .none, .bool false, .none] }
noncomputable abbrev excD (C t d : Addr) : Obj := { cls := .ref C, dict := some d, data := .fields #[.ref t, .none, .none, .none, .bool false, .none] }
noncomputable abbrev excTail : List Value := [.ref 46, .type "Exception", .type "BaseException", .type "object"]
/-- what is asked of the class -/
noncomputable def PaintIn (K : Frag) (C : Addr) : Prop := ∃ nm q N bs sn sub ab col dd k0 k1 k2 k3 k5, K.lookup C = some (excClassObj nm q C N bs excTail true sn sub ab col dd k0 k1 k2 k3 k5 "Exception.__new__")
section
variable {prog : Program} {w : World} {A : Around} {h : Heap} {g : Array GenState} {d : Drawn} {t : Nat} {os : OsState} {K : Frag} {C fI : Addr}
  {nm q : Str} {N : Addr} {bs : List Value} {sn : List Str} {sub : List Value} {ab : Bool} {col : Option Bool} {dd : Option Addr} {k0 k1 k2 k3 k5 : Option Value}
theorem tail_has (T : String) {b : Bool} (e : excTail.contains (.type T) = b) : (Value.ref C :: excTail).contains (.type T) = b := by rw [List.contains_cons, e]; rfl
theorem paint_check_new {M : Model} {E : Value → Shared → Prop} {rest : List Value} {Q : Unit → Shared → Prop} (hC : h.get? C = some (excClassObj nm q C N bs excTail true sn sub ab col dd k0 k1 k2 k3 k5 "Exception.__new__"))
    (hq : Q () ⟨h, g, d, t, os⟩) : wpAny M A (checkBuiltinCall "Exception.__new__" ⟨.ref C :: rest, []⟩) Q E ⟨h, g, d, t, os⟩ := by
  have Y := PySem.F.excBase_Exception
  have hcont := tail_has (C := C) "Exception" (b := true) (by decide)
  have hstar := Y.noStar
  simp only [checkBuiltinCall, Y.newKind, Y.newSplit, Y.newRow]
  repeat (first | refine wpAny_loadPart_at hC ?_ | (refine wpAny_isSubtype_exc hC ?_; rw [hcont]) | refine wpAny_staticBase_exc hC ?_ | refine wpAny_madeBy_exc hC ?_ | simp only [bne_self_eq_false, Bool.false_eq_true, if_false] | wp_step)
  exact hq
theorem paint_new {R : Result → Shared → Prop} {rest : List Value} (hC : h.get? C = some (excClassObj nm q C N bs excTail true sn sub ab col dd k0 k1 k2 k3 k5 "Exception.__new__"))
    (hq : R (.ok (.ret (.ref (h.objs.size + 1)))) ⟨(h.push { cls := .type "tuple", data := .seq rest.toArray }).push (excO C h.objs.size), g, d, t, os⟩) (hrest : rest.length ≤ sizeLine) :
    codeAny (model prog w) A (.builtin "Exception.__new__" ⟨.ref C :: rest, []⟩) R ⟨h, g, d, t, os⟩ := by
  have Y := PySem.F.excBase_Exception
  have hends := Y.ends
  have hcB := tail_has (C := C) "Exception" (b := true) (by decide)
  have hcA := tail_has (C := C) "AttributeError" (b := false) (by decide)
  have hcN := tail_has (C := C) "NameError" (b := false) (by decide)
  refine codeAny_builtinAt Y.entry ?_
  unfold Builtin.«BaseException.__new__»
  refine PySem.wpAt_bind ?_
  show PySem.wpAt _ _ _ (stack >>= _) _ _ _
  refine PySem.wpAt_bind (PySem.wpAt_stack fun p below => PySem.wpAt_of_wpAny ?_)
  wp_walk
  refine PySem.wpAt_of_wpAny ?_
  rw [Y.owner]
  repeat (first | with_reducible refine wpAny_madeHere_exc Y.canon hC ?_ | with_reducible refine wpAny_loadPart_at hC ?_ | (with_reducible refine wpAny_isSubtype_exc hC ?_; first | rw [hcB] | rw [hcA] | rw [hcN]) | wp_step)
  show R _ _
  rw [Heap.size_push]
  exact hq
theorem paint_type_call {E : Value → Shared → Prop} {rest : List Value} {Q : Fin → Shared → Prop} (X : K.In h) (hK : K.lookup C = some (excClassObj nm q C N bs excTail true sn sub ab col dd k0 k1 k2 k3 k5 "Exception.__new__"))
    (hi : findIn K (.ref C) "__init__" = some (some (.ref fI))) (hf : typeIn K (.ref fI) = some (.type "function"))
    (hq : wpAny (model prog w) A (call (.ref fI) (.ref (h.objs.size + 1) :: rest)) (fun r s' => r = .none ∧ Q (.done (.ret (.ref (h.objs.size + 1)))) s') E ⟨(h.push { cls := .type "tuple", data := .seq rest.toArray }).push (excO C h.objs.size), g, d, t, os⟩)
    (hrest : rest.length ≤ sizeLine) : wpAny (model prog w) A (Builtin.«type.__call__» ⟨.ref C :: rest, []⟩) Q E ⟨h, g, d, t, os⟩ := by
  have Y := PySem.F.excBase_Exception
  have hC := X _ _ hK
  repeat (first | with_reducible refine wpAny_loadPart_at hC ?_ | with_reducible refine wpAny_madeBy_exc hC ?_ | wp_step)
  refine codeAny_call_builtin_code (Code.quiet_builtin _ Y.quiet) (paint_check_new hC ?_)
  refine paint_new hC ?_ hrest
  show wpAny _ _ _ _ _ _
  have kp : ∀ b o, h.get? b = some o → ((h.push { cls := .type "tuple", data := .seq rest.toArray }).push (excO C h.objs.size)).get? b = some o := fun b o e => Heap.get?_push_of_some _ (Heap.get?_push_of_some _ e)
  have hC₁ := kp _ _ hC
  have hget : ((h.push { cls := .type "tuple", data := .seq rest.toArray }).push (excO C h.objs.size)).get? (h.objs.size + 1) = some (excO C h.objs.size) := by heap_get
  have hcC : (Value.ref C :: excTail).contains (.ref C) = true := by simp
  have X₁ := X.keeps kp
  unfold isInstance
  repeat (first | with_reducible refine wpAny_loadPart_at hget ?_ | (with_reducible refine wpAny_isSubtype_exc hC₁ ?_; rw [hcC]) | wp_step)
  show wpAny _ _ (typeLookup (.ref C) _) _ _ _
  refine (looks_findIn X₁ hi).here ?_
  refine wpAny_holding (wpAny_bind ((bind_fn X₁ _ hf).here ?_))
  refine wpAny_bind (wpAny_mono hq (fun r s' hr => ?_) fun _ _ x => x)
  obtain ⟨rfl, hQ⟩ := hr
  wp_walk
  exact hQ
end
section
variable {prog : Program} {w : World} {A : Around} {s : Shared} {h₀ : Heap} {L : Addr} {m : Str → Option Value} {news : List (Addr × Obj)} {K : Frag} {C fI : Addr} {E : Value → Shared → Prop}
theorem paint_make {rest : List Value} {Q : Value → Shared → Prop} (F : Fr h₀ L s.heap m) (Nw : News h₀ L s.heap news) (X₀ : K.In h₀) (hP : PaintIn K C)
    (hi : findIn K (.ref C) "__init__" = some (some (.ref fI))) (hf : typeIn K (.ref fI) = some (.type "function")) (hrest : rest.length ≤ sizeLine)
    (h : ∀ e t h', Fr h₀ L h' m → News h₀ L h' ((e, excO C t) :: (t, { cls := .type "tuple", data := .seq rest.toArray }) :: news) → (∀ p ∈ news, p.1 < t) → t < e →
      wpAny (model prog w) (A.under (.builtin "type.__call__" ⟨.ref C :: rest, []⟩)) (call (.ref fI) (.ref e :: rest)) (fun r s' => r = .none ∧ Q (.ref e) s') E { s with heap := h' }) :
    wpAny (model prog w) A (call (.ref C) rest) Q E s := by
  obtain ⟨nm, q, N, bs, sn, sub, ab, col, dd, k0, k1, k2, k3, k5, hK⟩ := hP
  have X := X₀.keeps F.keep
  obtain ⟨hh, g, d, t, os⟩ := s
  have hC := X _ _ hK
  have f1 := tc_lookup
  have f2 := tc_bind (.ref C)
  have hT : (⟨hh, g, d, t, os⟩ : Shared).TypeIs (.ref C) "type" := ⟨_, hC, rfl⟩
  refine wpAny_call (codeAny_of_tree ?_)
  show wpAny _ _ (callAny (.ref C) _) _ _ _
  repeat (any_goals (first | assumption | with_reducible refine wpAny_loadPart_at hC ?_ | wp_step))
  refine ⟨rfl, ?_⟩
  have N' := (Nw.push F { cls := .type "tuple", data := .seq rest.toArray }).push (F.push _) (excO C hh.objs.size)
  rw [Heap.size_push] at N'
  refine codeAny_call_builtin_at (Code.quiet_builtin _ (by decide +kernel)) entry_typeCall (wpAny_check_type_call_sub hC (paint_type_call X hK hi hf ?_ hrest))
  exact wpAny_mono (h _ hh.objs.size _ ((F.push _).push _) N' (fun p hp => Heap.lt_size (Nw p hp).1) (Nat.lt_succ_self _)) (fun r s' z => ⟨z.1, z.2⟩) fun _ _ z => z

/-- the built-in __init__ : the tuple anew -/
theorem paint_base_init {e t₀ : Addr} {rest : List Value} {gg : Obj → List (Addr × Obj)} {Q : Value → Shared → Prop} (F : Fr h₀ L s.heap m) (Nw : News h₀ L s.heap news) (X₀ : K.In h₀) (hP : PaintIn K C)
    (U : UpdF e (excO C t₀) news gg) (hrest : rest.length ≤ sizeLine)
    (h : ∀ t h', Fr h₀ L h' m → News h₀ L h' ((t, { cls := .type "tuple", data := .seq rest.toArray }) :: gg (excO C t)) → (∀ p ∈ news, p.1 < t) → Q .none { s with heap := h' }) :
    wpAny (model prog w) A (call (.builtin "Exception.__init__") (.ref e :: rest)) Q E s := by
  obtain ⟨nm, q, N, bs, sn, sub, ab, col, dd, k0, k1, k2, k3, k5, hK⟩ := hP
  have hC := X₀.keeps F.keep _ _ hK
  obtain ⟨pre, post, rfl, hgg, u1, u2⟩ := U.split
  obtain ⟨hh, g, d, t, os⟩ := s
  have he := (Nw (e, excO C t₀) (by simp)).1
  have Y := PySem.F.excBase_Exception
  have hcB := tail_has (C := C) "Exception" (b := true) (by decide)
  have hshort := Y.noStar
  refine wpAny_call (codeAny_call_builtin Y.init.plain Y.initEntry ?_)
  have chk : ∀ {M : Model} {A' : Around} {Q' : Unit → Shared → Prop} {E' : Value → Shared → Prop}, Q' () ⟨hh, g, d, t, os⟩ → wpAny M A' (checkBuiltinCall "Exception.__init__" ⟨.ref e :: rest, []⟩) Q' E' ⟨hh, g, d, t, os⟩ := by
    intro M A' Q' E' hq
    simp only [checkBuiltinCall, Y.initKind, Y.initSplit, Y.initRow]
    repeat (first | with_reducible refine wpAny_loadPart_at he ?_ | with_reducible refine wpAny_loadPart_at hC ?_ | (with_reducible refine wpAny_isSubtype_exc hC ?_; rw [hcB]) | wp_step)
    refine wpAny_onRaise ?_
    rw [show ∀ (a b : String) (n : Nat), Bind.check ⟨.positional, "*", "Exception", .self, [⟨"args", .varPos, false⟩]⟩ a b n (List.map (fun x => x.fst) ({ pos := Value.ref e :: rest } : Args).kw) = pure () from
      fun a b n => check_star_args _ _ _ _ _ _]
    exact wpAny_pure hq
  refine chk ?_
  wp_walk
  have N' := Nw.push F { cls := .type "tuple", data := .seq rest.toArray }
  have F' := F.push { cls := .type "tuple", data := .seq rest.toArray }
  have lt : ∀ p ∈ pre ++ (e, excO C t₀) :: post, p.1 < hh.objs.size := fun p hp => Heap.lt_size (Nw p hp).1
  have z := news_upd (pre := (hh.objs.size, { cls := .type "tuple", data := .seq rest.toArray }) :: pre) (o' := excO C hh.objs.size) (f := Obj.mapFields (·.setIfInBounds 0 (.ref hh.objs.size))) F' N'
    (by
      intro p hp
      rcases List.mem_cons.mp hp with rfl | hp
      · exact (Nat.ne_of_lt (Heap.lt_size he)).symm
      · exact u1 p hp) u2 rfl rfl
  have := h hh.objs.size _ z.1 (by rw [hgg]; exact z.2) lt
  exact this
theorem refuse_paint (self : Value) (C : Addr) : refuseLoop self "__setattr__" (.ref C :: excTail) = pure () := by
  rw [refuseLoop_ref, refuseLoop_ref]; exact PySem.F.store_Exception.passes self
theorem paint_osa {x : Addr} {ox : Obj} {od : Option Obj} {name : Str} {tk : Tok} {v : Value} {R : Result → Shared → Prop} (X : K.In s.heap) (hP : PaintIn K C) (I : InstAt s.heap x ox C od) (ht : takerIn K C name = some none)
    (h : ∀ b, wpAny (model prog w) A.in1 (Builtin.ObjectAttr.storeInOwnDict (.ref x) (.ref C) (.str name tk) name v b)
      (fun (fin : PySem.Fin) s' => match fin with | .done f => R (.ok f) s' | .again c' => c'.quiet = true ∧ codeAny (model prog w) A c' R s') (fun e s' => R (.error e) s') s) :
    codeAny (model prog w) A (.call (.builtin "object.__setattr__") ⟨[.ref x, .str name tk, v], []⟩) R s := by
  obtain ⟨nm, q, N, bs, sn, sub, ab, col, dd, k0, k1, k2, k3, k5, hK⟩ := hP
  have SF := PySem.F.store_object
  have hc : clsIn K C = some { name := nm, bases := bs, mro := .ref C :: excTail, ns := N, qualname := q, hasDict := true, slotNames := sn, subclasses := sub, abstract := ab, collection := col, hasDel := false } := by unfold clsIn; rw [hK]
  have sub' : Looks (model prog w) s.heap (isInstance (.ref x) (.type "object")) true := I.type.andThen (looks_mroIn X (by unfold mroIn; rw [hc, Option.bind_some, if_neg (by exact Bool.false_ne_true)]; exact congrArg some (tail_has "object" (by decide))))
  refine codeAny_call_builtin SF.slot.plain SF.entry (@check_slot (model prog w) _ _ s "object.__setattr__" "object" "__setattr__" (.ref x) [.str name tk, v] [] _ SF.kind SF.split sub' (SF.args (.ref x) (.str name tk) v) ?_)
  obtain ⟨attr, ha, hr⟩ := Option.bind_eq_some_iff.mp ht
  have hm : Looks (model prog w) s.heap (mroOf (.ref C)) (.ref C :: excTail) := (looks_clsIn X hc).andThen .now
  have L3 : Looks (model prog w) s.heap (Builtin.ObjectAttr.storeTaker? attr) none := by
    cases attr with
    | none => exact .now
    | some a =>
      obtain ⟨b, hb, hbn⟩ := Option.map_eq_some_iff.mp hr
      refine (looks_takesIn X hb).andThen ?_
      cases b
      · exact .now
      · cases hbn
  rw [osa_eq, refuse_eq]
  refine wpAny_bind (wpAny_bind (I.type.here (wpAny_bind (hm.here ?_))))
  rw [refuse_paint]
  exact wpAny_pure (wpAny_bind (I.type.here (wpAny_bind ((looks_findIn X ha).here (wpAny_bind (L3.here (h _)))))))
end
section
variable {prog : Program} {w : World} {A : Around} {s : Shared} {h₀ : Heap} {L : Addr} {m : Str → Option Value} {news : List (Addr × Obj)} {K : Frag} {C : Addr} {E : Value → Shared → Prop}
theorem paint_put {dx : Addr} {name : Str} {tk : Tok} {v : Value} {es es' : List DictEntry} {n n' : Nat} {news' : List (Addr × Obj)} {Q : PySem.Fin → Shared → Prop} (F : Fr h₀ L s.heap m) (Nw : News h₀ L s.heap news)
    (U : Upd dx (dictOf es n) (dictOf es' n') news news') (hl : (getL name es).isSome = true) (e : (putL name (PyData.keyHash w.params name) (.str name s.toks) v es, putN name es n) = (es', n')) (hz : es'.length ≤ 1000)
    (h : ∀ h', Fr h₀ L h' m → News h₀ L h' news' → Q (.done (.ret .none)) { s with heap := h', toks := s.toks + 1 }) :
    wpAny (model prog w) A (Builtin.ObjectAttr.storeInDict dx (.str name tk) name v) Q E s := by
  obtain ⟨pre, post, rfl, rfl, h1, h2⟩ := U.split
  obtain ⟨e1, e2⟩ := Prod.mk.inj e
  obtain ⟨U1, U2⟩ := news_upd (f := Obj.putName name (PyData.keyHash w.params name) (.str name s.toks) v) F Nw h1 h2 (o' := dictOf es' n') (by rw [putName_dict, e1, e2]) rfl
  have D := (Nw (dx, dictOf es n) (by simp)).1
  have D' := (U2 (dx, dictOf es' n') (by simp)).1
  refine wpAny_bind (wpAny_pure (wpAny_bind ?_))
  unfold nsSet
  refine wpAny_bind (wpAny_bind (wpAny_askSetting (wpAny_pure (wpAny_bind (wpAny_mkText (wpAny_bind (wpAny_loadPart D ?_)))))))
  dsimp only
  have c : (!es.toArray.any (·.key.isStr name) && es.toArray.any (·.refKey)) = false := by
    rw [← Array.any_toList, ← Array.any_toList]
    unfold getL at hl
    split at hl
    · rename_i en he
      rw [List.any_eq_true.mpr ⟨en, List.mem_of_find?_eq_some he, List.find?_some he⟩]; rfl
    · split at hl
      · cases hl
      · rename_i z; rw [Bool.not_eq_true] at z; rw [z, Bool.and_false]
  rw [aRefKeyMayBeTheName_at, c]
  refine wpAny_updatePart D ?_
  refine wpAny_bind (wpAny_lookBehind D' (pastItsLine_dict (by rw [List.size_toArray, sizeLine_eq]; omega)) ?_)
  exact wpAny_pure (h _ U1 U2)

/-- a field of an exception that has no dict yet, and of one that has -/
theorem paint_set1 {x t : Addr} {name : Str} {v : Value} {gg : Obj → List (Addr × Obj)} {Q : Unit → Shared → Prop} (F : Fr h₀ L s.heap m) (Nw : News h₀ L s.heap news) (X₀ : K.In h₀) (hP : PaintIn K C)
    (U : UpdF x (excO C t) news gg) (hs : findIn K (.ref C) "__setattr__" = some (some (.builtin "object.__setattr__"))) (ht : takerIn K C name = some none)
    (h : ∀ d k h', Fr h₀ L h' m → News h₀ L h' ((d, dictOf [⟨PyData.keyHash w.params name, .str name k, v⟩] 1) :: gg (excD C t d)) → (∀ p ∈ news, p.1 < d) → Q () { s with heap := h', toks := s.toks + 2 }) :
    wpAny (model prog w) A (setAttr (.ref x) name v) Q E s := by
  have X := X₀.keeps F.keep
  have hP' := hP
  obtain ⟨nm, q, N, bs, sn, sub, ab, col, dd, k0, k1, k2, k3, k5, hK⟩ := hP
  have hc : clsIn K C = some { name := nm, bases := bs, mro := .ref C :: excTail, ns := N, qualname := q, hasDict := true, slotNames := sn, subclasses := sub, abstract := ab, collection := col, hasDel := false } := by unfold clsIn; rw [hK]
  obtain ⟨pre, post, rfl, hgg, u1, u2⟩ := U.split
  have he := (Nw (x, excO C t) (by simp)).1
  have I : InstAt s.heap x (excO C t) C none := ⟨he, rfl, rfl, trivial⟩
  refine set_plain X I hs (paint_osa (s := { s with toks := s.toks + 1 }) X hP' I ht fun b => ?_)
  refine wpAny_bind (wpAny_pure (wpAny_bind (wpAny_bind (wpAny_loadPart he (wpAny_bind (looks_clsIn X hc _ _ _ _ (fun _ _ e => e) ?_))))))
  refine wpAny_bind (wpAny_alloc (wpAny_bind (wpAny_update (Heap.get?_push_of_some _ he) (wpAny_pure ?_))))
  have N1 := Nw.push F emptyDict
  have F1 := F.push emptyDict
  have lt : ∀ p ∈ pre ++ (x, excO C t) :: post, p.1 < s.heap.objs.size := fun p hp => Heap.lt_size (Nw p hp).1
  have hxs : s.heap.objs.size ≠ x := (Nat.ne_of_lt (Heap.lt_size he)).symm
  have z := news_upd (pre := (s.heap.objs.size, emptyDict) :: pre) (o' := excD C t s.heap.objs.size) (f := fun o => { o with dict := some s.heap.objs.size }) F1 N1
    (by
      intro p hp
      rcases List.mem_cons.mp hp with rfl | hp
      · exact hxs
      · exact u1 p hp) u2 rfl rfl
  refine paint_put (s := { s with heap := _, toks := s.toks + 1 }) z.1 z.2 (es := []) (n := 0) (Upd.head (fun p hp => ?_)) rfl rfl (Nat.le_of_ble_eq_true rfl) (fun h' F' N' => ?_)
  · rcases List.mem_append.mp hp with hp | hp
    · exact Nat.ne_of_lt (lt p (List.mem_append_left _ hp))
    · rcases List.mem_cons.mp hp with rfl | hp
      · exact hxs.symm
      · exact Nat.ne_of_lt (lt p (List.mem_append_right _ (.tail _ hp)))
  · exact h _ _ h' F' (by rw [hgg]; exact N') lt
theorem paint_set2 {x t d : Addr} {name : Str} {v : Value} {es es' : List DictEntry} {n n' : Nat} {news' : List (Addr × Obj)} {Q : Unit → Shared → Prop} (F : Fr h₀ L s.heap m) (Nw : News h₀ L s.heap news) (X₀ : K.In h₀) (hP : PaintIn K C)
    (h1 : (x, excD C t d) ∈ news) (h2 : (d, dictOf es n) ∈ news) (hs : findIn K (.ref C) "__setattr__" = some (some (.builtin "object.__setattr__"))) (ht : takerIn K C name = some none)
    (hl : (getL name es).isSome = true) (e : (putL name (PyData.keyHash w.params name) (.str name (s.toks + 1)) v es, putN name es n) = (es', n')) (U : Upd d (dictOf es n) (dictOf es' n') news news') (hz : es'.length ≤ 1000)
    (h : ∀ h', Fr h₀ L h' m → News h₀ L h' news' → Q () { s with heap := h', toks := s.toks + 2 }) :
    wpAny (model prog w) A (setAttr (.ref x) name v) Q E s := by
  have X := X₀.keeps F.keep
  have hP' := hP
  obtain ⟨nm, q, N, bs, sn, sub, ab, col, dd, k0, k1, k2, k3, k5, hK⟩ := hP
  have hc : clsIn K C = some { name := nm, bases := bs, mro := .ref C :: excTail, ns := N, qualname := q, hasDict := true, slotNames := sn, subclasses := sub, abstract := ab, collection := col, hasDel := false } := by unfold clsIn; rw [hK]
  have he := (Nw _ h1).1
  have hd := (Nw _ h2).1
  have I : InstAt s.heap x (excD C t d) C (some (dictOf es n)) := ⟨he, rfl, rfl, hd⟩
  refine set_plain X I hs (paint_osa (s := { s with toks := s.toks + 1 }) X hP' I ht fun b => ?_)
  refine wpAny_bind (wpAny_pure (wpAny_bind (wpAny_bind (wpAny_loadPart he (wpAny_bind (looks_clsIn X hc _ _ _ _ (fun _ _ e => e) ?_))))))
  exact wpAny_pure (a := some d) (paint_put (s := { s with toks := s.toks + 1 }) F Nw U hl e hz fun h' F' N' => h h' F' N')

/-- raise of what an expression gives -/
noncomputable def RaiseV (K : Frag) (C : Addr) (E : Value → Shared → Prop) (v : Value) (s : Shared) : Prop := ∃ e t d, v = .ref e ∧ s.heap.get? e = some (excD C t d) ∧ K.In s.heap ∧ E (.ref e) s
theorem raiseV_of {e t d : Addr} (F : Fr h₀ L s.heap m) (Nw : News h₀ L s.heap news) (X₀ : K.In h₀) (h1 : (e, excD C t d) ∈ news) (h : E (.ref e) s) : RaiseV K C E (.ref e) s :=
  ⟨e, t, d, rfl, (Nw _ h1).1, X₀.keeps F.keep, h⟩
theorem raise_open {env : Env} {x : PySem.Expr} {pos : Pos} {Q : Flow → Shared → Prop} (hP : PaintIn K C) (hh : A.handled = none)
    (h : wpAny (model prog w) A (eval x env) (RaiseV K C E) E s) : wpAny (model prog w) A (exec (.Raise (some x) none pos) env) Q E s := by
  obtain ⟨nm, q, N, bs, sn, sub, ab, col, dd, k0, k1, k2, k3, k5, hK⟩ := hP
  have hcB := tail_has (C := C) "BaseException" (b := true) (by decide)
  rw [arm_exec_Raise]
  refine wpAny_bind (wpAny_standAt ?_)
  simp only [evalOpt, Option.map]
  unfold raiseStmt
  refine wpAny_bind (wpAny_bind (wpAny_mono h (fun v s₂ h₂ => wpAny_bind (wpAny_standAt (wpAny_pure ?_))) fun _ _ x => x))
  obtain ⟨e, t, d, rfl, he, X, hE⟩ := h₂
  have hC := X _ _ hK
  obtain ⟨hp, g, dr, tk, os⟩ := s₂
  repeat (first | with_reducible refine wpAny_loadPart_at he ?_ | with_reducible refine wpAny_loadPart_at hC ?_ | (with_reducible refine wpAny_isSubtype_exc hC ?_; rw [hcB]) | wp_step)
  exact wpAny_raiseNew_none hh hE
end
/-- a ledger without one address -/
inductive Del (d : Addr) (o : Obj) : List (Addr × Obj) → List (Addr × Obj) → Prop
  | head {r} : (∀ p ∈ r, p.1 ≠ d) → Del d o ((d, o) :: r) r
  | tail {p r r'} : p.1 ≠ d → Del d o r r' → Del d o (p :: r) (p :: r')
theorem Del.mem {d : Addr} {o : Obj} {l l' : List (Addr × Obj)} (h : Del d o l l') : (d, o) ∈ l ∧ ∀ p ∈ l', p ∈ l ∧ p.1 ≠ d := by
  induction h with
  | head h => exact ⟨.head _, fun p hp => ⟨.tail _ hp, h p hp⟩⟩
  | tail h _ ih =>
    refine ⟨.tail _ ih.1, fun p hp => ?_⟩
    rcases List.mem_cons.mp hp with rfl | hp
    · exact ⟨.head _, h⟩
    · exact ⟨.tail _ (ih.2 p hp).1, (ih.2 p hp).2⟩
section
variable {M : Model} {A : Around} {E : Value → Shared → Prop} {s' : Shared} {base g h : Heap} {outer : List Env} {L a e : Addr} {m : Str → Option Value} {name : Str} {scope : Scope} {cd : Value} {Q : Unit → Shared → Prop} {news : List (Addr × Obj)}
theorem leave_mine {C t d : Addr} (K : Below A base outer g) (F : Fr g L s'.heap m) (N : News g L s'.heap news) {news' : List (Addr × Obj)} (hD : Del e (excD C t d) news news')
    (hQ : ∀ h', RaisedSN base g outer e (.ref C) news' h' → g.UpToSlots h' → Q () { s' with heap := h' }) (hk : scope.kind = .function := by rfl) :
    wpAny M (A.deeper (envOf name scope L a cd)) (leaving (envOf name scope L a cd) (.ref e)) Q E s' := by
  have K' := K.push (name := name) (a := a) (cd := cd) F hk
  obtain ⟨hm, hsub⟩ := hD.mem
  obtain ⟨he, heL, heg⟩ := N _ hm
  have hin : ∀ env ∈ (envOf name scope L a cd :: outer), ∀ b, env.frame = some b → b ∈ e :: (envOf name scope L a cd :: outer).filterMap (·.frame) := fun env he b hb => .tail _ (List.mem_filterMap.mpr ⟨env, he, hb⟩)
  have hbe : base.get? e = none := fresh_of_stays K.stays heg
  have st : base.StaysIn (hideAll s'.heap (e :: (envOf name scope L a cd :: outer).filterMap (·.frame))) := fun b o q => hideAll_get _ (K'.stays b o q) fun hmm => by
    rcases List.mem_cons.mp hmm with rfl | hmm
    · rw [hbe] at q; cases q
    · rw [(K'.frames.mem hmm).1] at q; cases q
  have sg : ∀ b o, g.get? b = some o → b ∉ outer.filterMap (·.frame) → (hideAll s'.heap (e :: (envOf name scope L a cd :: outer).filterMap (·.frame))).get? b = some o := fun b o q nm => hideAll_get _ (F.keep b o q) fun hmm => by
    rcases List.mem_cons.mp hmm with rfl | hmm
    · rw [heg] at q; cases q
    · rcases kts_mem hmm with z | z
      · rw [z, kts_self F] at q
        cases q
      · exact nm z
  have hen : (hideAll s'.heap (e :: (envOf name scope L a cd :: outer).filterMap (·.frame))).get? e = none := hideAll_none _ (.head _)
  have hl : ∀ q ∈ news', (hideAll s'.heap (e :: (envOf name scope L a cd :: outer).filterMap (·.frame))).get? q.1 = some q.2 ∧ g.get? q.1 = none ∧ base.get? q.1 = none := fun q hq => by
    obtain ⟨hqn, hqe⟩ := hsub q hq
    refine ⟨hideAll_get _ (N q hqn).1 fun hmm => ?_, (N q hqn).2.2, fresh_of_stays K.stays (N q hqn).2.2⟩
    rcases List.mem_cons.mp hmm with z | hmm
    · exact hqe z
    obtain ⟨env, he, hf⟩ := List.mem_filterMap.mp hmm
    rcases List.mem_cons.mp he with rfl | he
    · exact (N q hqn).2.1 (Option.some.inj hf).symm
    · obtain ⟨o, ho, _⟩ := (K.frames.mem (List.mem_filterMap.mpr ⟨env, he, hf⟩)).2
      rw [(N q hqn).2.2] at ho; cases ho
  refine wpAny_leaving_firstW (a0 := .ref t) K'.stack (funFrames_hide K'.frames hin) rfl he (fun b o hb => of_hideAll _ hb) hen rfl rfl rfl fun h' hL => ?_
  obtain ⟨k1, ⟨_, _, k2⟩, k3, k4⟩ := hL
  exact hQ h' ⟨_, .ref t, st, sg, hl, k1, hen, k2, k3⟩ ((Heap.UpToSlots.of_keeps F.keep).trans k4)
end
section
variable {prog : Program} {w : World} {A₀ : Around} {E : Value → Shared → Prop} {s' : Shared} {base g G : Heap} {outer : List Env} {L a e : Addr} {m : Str → Option Value} {name : Str} {scope : Scope} {cd : Value}
  {b₀ : Stmt} {suite : List Stmt} {pos np : Pos} {rest : List ExceptHandler} {Q : Flow → Shared → Prop} {news : List (Addr × Obj)} {KF : Frag} {C : Addr}
  {p : Program} {loose : List Str} {mean : ExcName → Option Value} {mg mb : Str → Option Value} {x : Str}
theorem caught_mine (R : RaisedSN base G (envOf name scope L a cd :: outer) e (.ref C) news s'.heap) (F : Fr g L G m) (K : Below A₀ base outer g) (hsm : G.UpToSlots s'.heap) (XB : KF.In base) (TB : Top p loose mean mg mb base)
    (D : KtsDicts (outer.filterMap (·.frame)) g) (ex : nsIn KF mainGlobals x = some (some (.ref C))) (hP : PaintIn KF C)
    (k : ∀ h' g', KtsTurn (outer.filterMap (·.frame)) g g' → Fr g' L h' m → News g' L h' news → Below A₀ base outer g' → KF.In g' → Top p loose mean mg mb g' → KtsDicts (outer.filterMap (·.frame)) g' →
      wpAny (model prog w) ((A₀.deeper (envOf name scope L a cd)).mark (some (.ref e))) (execs (b₀ :: suite) (envOf name scope L a cd)) Q E { s' with heap := h' })
    (hk : scope.kind = .function := by rfl) (hx : (envOf name scope L a cd).kindOf x = some .globalImplicit := by rfl) (hd : (x == ("__debug__" : Str)) = false := by decide)
    (hE : PassesOwnAt (model prog w) ((A₀.deeper (envOf name scope L a cd)).mark (some (.ref e))) (A₀.deeper (envOf name scope L a cd)) (envOf name scope L a cd) E := by passes_own) :
    wpAny (model prog w) (A₀.deeper (envOf name scope L a cd)) (noteFrame (.ref e) (envOf name scope L a cd))
      (fun _ s₂ => wpAny (model prog w) (A₀.deeper (envOf name scope L a cd)) (setFlight (.ref e) none) (fun _ s₃ =>
        wpAny (model prog w) (A₀.deeper (envOf name scope L a cd)) (handleBy (.ref e) (envOf name scope L a cd) (.ExceptHandler (some (.Name x np)) none (b₀ :: suite) pos :: rest)) Q E s₃) E s₂) E s' := by
  obtain ⟨nm, q, N, bs, sn, sub, ab, col, dd, k0, k1, k2, k3, k5, hK⟩ := hP
  obtain ⟨B, a0, hB, hBG, hl, hfl⟩ := R
  have hL : B.get? L = none := by
    obtain ⟨_, ⟨L', _, hf, hn', _⟩, _⟩ := hfl.2.2.1
    obtain rfl : L = L' := Option.some.inj hf
    exact hn'
  refine wpAny_looks_onW (Around.frames_deeper K.stack) rfl hfl fun h₄ hheld₄ hsm₄ => ?_
  refine wpAny_landsW hheld₄ fun h₅ hheld hsm₅' => ?_
  have hsm₅ := hsm₄.trans hsm₅'
  obtain ⟨g₅, T₅, F₅, K₅⟩ := kts_ground K F hBG hheld.1 (hsm.trans hsm₅)
  have X₅ : KF.In g₅ := XB.keeps K₅.stays
  have P₅ : TopRead p loose mg mb g₅ := topRead_of (TB.keeps K₅.stays)
  obtain ⟨ob, hob, hobc⟩ := hheld.there
  have hC₅ := F₅.keep _ _ (X₅ _ _ hK)
  refine wpAny_handleBy_cons (codeAny_handlers_test (name_K F₅ X₅ P₅ ex ?_ hk hx hd)) (by intro q; cases q)
  refine wpAny_excMatches_sub_self hC₅ hob hobc (by decide) (codeAny_handlers_suite ?_)
  refine lands_againW hheld fun h₆ hfl₆ hsm₆ => ?_
  obtain ⟨g₆, T₆, F₆, K₆⟩ := kts_ground K F hBG hfl₆.1 ((hsm.trans hsm₅).trans hsm₆)
  have Nl : News g₆ L h₆ news := fun q hq => ⟨hfl₆.1 _ _ (hl q hq).1, (fun z => by have := (hl q hq).1; rw [z, hL] at this; cases this), T₆.none_ _ (kts_none F.keep (hl q hq).2.1)⟩
  exact wpAny_passesOwnAt hE (k h₆ g₆ T₆ F₆ Nl K₆ (XB.keeps K₆.stays) (TB.keeps K₆.stays) (D.turn T₆))
end
/-- a def with a try, called by the law itself with a closed part of the ledger -/
theorem code_defSR {prog : Program} {w : World} {A₀ A : Around} {s : Shared} {base h₀ : Heap} {L : Addr} {m mg mb : Str → Option Value} {env : Env} {news : List (Addr × Obj)} {K : Frag} {p : Program} {loose : List Str} {mean : ExcName → Option Value}
    {R : Result → Shared → Prop} {name qual : Str} {params : Arguments} {body : List Stmt} {scope : Scope} {dV kV doc pm cdv ct oc : Value} {an od : Option Addr} {osl : Array (Option Value)} {f : Addr} {args : Args} {binds : List (Str × Value)}
    (B : Below A₀ base [] h₀) (F : Fr h₀ L s.heap m) (X₀ : K.In h₀) (N : News h₀ L s.heap news) (T : Top p loose mean mg mb h₀) (hA : A.frames = some [env]) (hf : env.frame = some L) (hke : env.scope.kind = .function)
    (ho : K.lookup f = some ⟨oc, od, .func (fnOf name qual params body scope dV kV doc pm an cdv ct), osl⟩) (hcd : codeIn K cdv qual = true) (hroom : A.depth < recursionLimit)
    (hbind : BindsTo s (fnOf name qual params body scope dV kV doc pm an cdv ct) args binds) (hloc : ∀ y ∈ binds, scope.names.lookup y.1 = some .local)
    (h : ∀ g L' h₁, Fr h₀ L g m → Fr g L' h₁ (fun y => binds.reverse.lookup y) → News g L' h₁ news → Below A base [env] g → K.In g → Top p loose mean mg mb g → KtsDicts ([env].filterMap (·.frame)) g → (∀ b o, s.heap.get? b = some o → b ∉ news.map (·.1) → g.get? b = some o) →
      wpAny (model prog w) (A.deeper (envOf qual scope L' f cdv)) (execs body (envOf qual scope L' f cdv))
        (fun fl s' => LeaveS0 ([env].filterMap (·.frame)) h₀ L m g R (match fl with | .ret v => v | _ => .none) s')
        (fun e s' => wpAny (model prog w) (A.deeper (envOf qual scope L' f cdv)) (leaving (envOf qual scope L' f cdv) e) (fun _ s'' => R (.error e) s'') (fun e' s'' => R (.error e') s'') s')
        { s with heap := h₁, toks := s.toks + binds.length })
    (hco : scope.isCoroutine = false) (hgen : scope.isGenerator = false) (hk : scope.kind = .function)
    (hcell : ∀ x ∈ scope.names, x.2 ≠ .cell) : codeAny (model prog w) A (.call (.ref f) args) R s := by
  have G := groundX (R := R) B F N hA hf hke
  have Xs := X₀.keeps F.keep
  have fsL : ∀ b ∈ [env].filterMap (·.frame), b = L := fun b hb => by simpa [hf, eq_comm] using hb
  refine codeAny_call_def (fd := fnOf name qual params body scope dV kV doc pm an cdv ct) (body := body) (binds := binds) hroom (Xs _ _ ho) rfl (T.nolimit.keeps F.keep) (codeRec_of Xs hcd) rfl hbind hcell hloc (fun h₁ n₁ k₁ => ?_) hco hgen hk
  have old : ∀ b o, (hideAll s.heap (news.map (·.1))).get? b = some o → h₁.get? b = some o := fun b o e => k₁ b o (of_hideAll _ e)
  have Nn : News (hideAll s.heap (news.map (·.1))) s.heap.objs.size h₁ news := by
    intro q hq
    refine ⟨k₁ _ _ (N q hq).1, ?_, hideAll_none _ (List.mem_map_of_mem hq)⟩
    exact Nat.ne_of_lt (Heap.lt_size (N q hq).1)
  obtain ⟨oL, es, ep, hLg, hLd, hLk, hLf⟩ := G.1.ns
  have st := G.2.2.1
  have run := h _ s.heap.objs.size h₁ G.1 ⟨n₁, old, Nat.le_of_eq (hideAll_size _ _)⟩ Nn G.2.1 (X₀.keeps st) (T.keeps st) (fun b hb => by rw [fsL b hb]; exact ⟨oL, es, ep, hLg, hLd⟩) (fun b o e hn => hideAll_get _ e hn)
  refine wpAny_mono run (fun fl s' hl => ?_) (fun _ _ y => y)
  obtain ⟨g', L', m', news', T', F', N', k⟩ := hl
  have nL₀ : h₀.get? L = none := kts_self F
  obtain ⟨sl, hs⟩ := T'.up hLg
  refine k ⟨⟨_, es, ep, F'.keep _ _ hs, hLd, hLk, hLf⟩, fun b o e => F'.keep b o (T'.other b o (st b o e) (fun q => by
    rw [fsL b q, nL₀] at e
    cases e)), F.above⟩ fun p hp => ⟨(N' p hp).1, fun q => ?_, ?_⟩
  · have := (N' p hp).2.2; rw [q, hs] at this; cases this
  · cases q : h₀.get? p.1 with
    | none => rfl
    | some o =>
      obtain ⟨sl', hs'⟩ := T'.up (st _ _ q)
      have := (N' p hp).2.2
      rw [hs'] at this
      cases this
theorem rest_newsS {h₀ g g' h h' : Heap} {L L' : Addr} {m' : Str → Option Value} {all led new : Led} {env : Env} (N : Kp (News h₀ L h all)) (sub : Kp (∀ p ∈ led, p ∈ all)) (hf : env.frame = some L) (hg : ∀ b o, h.get? b = some o → b ∉ led.map (·.1) → g.get? b = some o)
    (T : KtsTurn ([env].filterMap (·.frame)) g g') (F' : Fr g' L' h' m') (N' : News h₀ L h' new) (sub' : ∀ p ∈ led, p ∈ new) : News h₀ L h' all := by
  have fsL : ∀ b ∈ [env].filterMap (·.frame), b = L := fun b hb => by simpa [hf, eq_comm] using hb
  intro p hp
  refine ⟨?_, (N.out p hp).2⟩
  by_cases hm : p.1 ∈ led.map (·.1)
  · obtain ⟨q, hq, e⟩ := List.mem_map.mp hm
    have h1 := (N.out q (sub.out q hq)).1
    have h2 := (N.out p hp).1
    rw [e] at h1
    have h3 : q.2 = p.2 := Option.some.inj (h1.symm.trans h2)
    rw [← e, ← h3]
    exact (N' q (sub' q hq)).1
  · exact F'.keep _ _ (T.other _ _ (hg _ _ (N.out p hp).1 hm) fun z => (N.out p hp).2.1 (fsL _ z))
section
local macro_rules | `(tactic| k_room) => `(tactic| ktr_room)
local macro_rules | `(tactic| k_units) => `(tactic| ktr_units)
local macro_rules | `(tactic| k_enter) => `(tactic|
  (refine' code_def ?k1 ?k2 ?k3 ?k4 ?k5 ?kA ?kF ?kK ?k6 ?k7 ?k8 ?k9 ?kB ?_ ?c2 ?c3 ?c4 ?c5; (case kA => exact rfl); (case kF => exact rfl); (case kK => first | exact rfl | assumption); (case k1 => k_asm); (case k2 => k_asm); (case k3 => k_asm); (case k4 => k_asm); (case k5 => k_asm); (case k6 => k_is); (case k7 => k_is); (case k8 => k_room); (case k9 => first | exact BindsTo.of_eq rfl | exact binds_K (by k_in) rfl (by k_is) rfl rfl rfl | fail "k_enter: no rule for these arguments"); (case c5 => decide); (case kB => exact locs rfl); (case c2 => exact rfl); (case c3 => exact rfl); (case c4 => exact rfl); k_whole; intro g' L' h' FG' F' N' B' X' T'; (try dsimp only); (try k_lift B'); (try k_fold)))
-- a contract's entry, the rest of the ledger kept aside
local macro_rules | `(tactic| walk_at "my_enterR") => `(tactic|
  (refine' code_defR ?k1 ?k2 ?k3 ?k4 ?k5 ?kA ?kF ?kK ?k6 ?k7 ?k8 ?k9 ?kB ?_ ?c2 ?c3 ?c4 ?c5; (case kA => exact rfl); (case kF => exact rfl); (case kK => first | exact rfl | assumption); (case k1 => k_asm); (case k2 => k_asm); (case k3 => k_asm); (case k4 => k_asm); (case k5 => k_asm); (case k6 => k_is); (case k7 => k_is); (case k8 => k_room); (case k9 => first | exact BindsTo.of_eq rfl | exact binds_K (by k_in) rfl (by k_is) rfl rfl rfl | fail "k_enter: no rule for these arguments"); (case c5 => decide); (case kB => exact locs rfl); (case c2 => exact rfl); (case c3 => exact rfl); (case c4 => exact rfl); k_whole; intro g' L' h' FG' F' N' B' X' T' hgR'; (try dsimp only); (try k_lift B'); (try k_fold)))
local macro_rules | `(tactic| walk_at "my_B") => `(tactic| first | k_asm)
local macro_rules | `(tactic| walk_at "my_side") => `(tactic| (
  (case kB => k_asm); (case kF => k_asm); (case kX => k_asm); (case kN => k_asm); (case kT => k_asm); (case kk => first | exact rfl | assumption); (case kd => ktr_room); (case ku => ktr_units)))
local macro_rules | `(tactic| k_mem) => `(tactic| ((fail_if_success (refine' List.Mem.tail _ ?_)); assumption))
local macro_rules | `(tactic| walk_at "exec For Name Subscript cons nil") => `(tactic| (k_here; (rename Fr _ _ _ _ => lF'); (with_unfolding_all refine' For_invVF lF' ?k1 ?k2 ?_; (case k1 => exact rfl); (case k2 => exact rfl); k_whole)))
theorem paint59 (w : World) : PaintIn (hd.heap_39 w.params) 59 := by
  refine' ⟨_, _, _, _, _, _, _, _, _, _, _, _, _, _, ?zz⟩
  case zz => with_unfolding_all rfl
local macro_rules | `(tactic| walk_at "call ref") => `(tactic| (k_here; (with_reducible show wpAny _ _ (call (Value.ref 59) _) _ _ _); k_dflt (
  (refine' paint_make ?kF ?kN ?kX (paint59 _) ?ki ?kf ?kl ?_); (case kF => k_asm); (case kN => k_asm); (case kX => k_asm); (case ki => k_is); (case kf => k_is); (case kl => size_fits);
  k_whole; intro e' t' h' F' N' l1 l2; (try k_lt l1); (try k_lt2 l2); (try k_sweep); refine wpAny_call ?_; k_enter)))
local macro_rules | `(tactic| walk_at "getMethod type:Exception") => `(tactic| (k_here; refine' method_type ?F ?X ?m (by decide +kernel) ?e ?h ?_; (case F => k_asm); (case X => k_asm); (case m => kernel_rfl); (case e => k_dflt k_is); (case h => k_handed)))
theorem upd1 {e t : Addr} {o ot : Obj} {news : Led} (l1 : ∀ p ∈ news, p.1 < t) (l2 : t < e) : UpdF e o ((e, o) :: (t, ot) :: news) (fun o' => (e, o') :: (t, ot) :: news) := .head fun p hp => by
  rcases List.mem_cons.mp hp with rfl | hp
  · exact Nat.ne_of_lt l2
  · exact Nat.ne_of_lt (Nat.lt_trans (l1 p hp) l2)
theorem upd2 {e t t2 : Addr} {o ot o2 : Obj} {news : Led} (l1 : ∀ p ∈ news, p.1 < t) (l2 : t < e) (l3 : ∀ p ∈ (e, o) :: (t, ot) :: news, p.1 < t2) (o3 : Obj) : UpdF e o3 ((t2, o2) :: (e, o3) :: (t, ot) :: news) (fun o' => (t2, o2) :: (e, o') :: (t, ot) :: news) := .tail (Nat.ne_of_gt (l3 _ (.head _))) (upd1 l1 l2)
theorem upd3 {e t t2 d : Addr} {o o' ot o2 : Obj} {news : Led} (l : ∀ p ∈ (t2, o2) :: (e, o) :: (t, ot) :: news, p.1 < d) : ∀ p ∈ (t2, o2) :: (e, o') :: (t, ot) :: news, p.1 ≠ d := fun p hp => by
  rcases List.mem_cons.mp hp with rfl | hp
  · exact Nat.ne_of_lt (l _ (.head _))
  · rcases List.mem_cons.mp hp with rfl | hp
    · exact Nat.ne_of_lt (l (e, o) (.tail _ (.head _)))
    · exact Nat.ne_of_lt (l _ (.tail _ (.tail _ hp)))
section
variable {w : World} {dp un : Nat} {gd : Option (List Code)} {cn : Str} {cs : Scope} {a : Addr} {ccd : Value} {cl : List (Str × Addr)} {outer : List Env} {A₀ : Around} {base h₀ : Heap} {L : Addr} {m : Str → Option Value} {mean : ExcName → Option Value} {mg mb : Str → Option Value} {news : Led} {s : Shared} {Q E : Value → Shared → Prop}
set_option maxRecDepth 100000 in
set_option maxHeartbeats 1000000 in
theorem ct_paint {x : Str} {t : Tok}
   (B : Below A₀ base outer h₀) (F : Fr h₀ L s.heap m) (X : (hd.heap_39 w.params).In h₀) (N : News h₀ L s.heap news) (T : Top hd.view_39 Lo mean mg mb h₀)
   (hk : cs.kind = .function) (hd : dp + 10 < recursionLimit)
   (hret : ∀ e t d h' tk', (∀ p ∈ news, p.1 ≠ e) → Fr h₀ L h' m → News h₀ L h' ((e, excD 59 t d) :: news) → Q (.ref e) { s with heap := h', toks := tk' }) :
   wpAny (model PySem.Challenge.rw_pb0478_01.row.prog w) (ktrTop dp un gd cn cs L a ccd cl outer) (call (.ref 59) [.str x t]) Q E s := by
  revert X; k_fill; intro X
  k_steps
  (refine' paint_base_init ?kF ?kN ?kX (paint59 _) ?kU ?kl ?_)
  (case kF => k_asm)
  (case kN => k_asm)
  (case kX => k_asm)
  (case kU => exact upd1 (by assumption) (by assumption))
  (case kl => size_fits)
  k_whole
  intro t2 h2 F2 N2 l3
  (try dsimp only at N2)
  k_steps
  (refine' paint_set1 ?kF ?kN ?kX (paint59 _) ?kU ?ks ?kt ?_)
  (case kF => k_asm)
  (case kN => k_asm)
  (case kX => k_asm)
  (case kU => exact upd2 (by assumption) (by assumption) l3 _)
  (case ks => k_is)
  (case kt => k_is)
  k_whole
  intro d' k' h3 F3 N3 l4
  (try dsimp only at N3)
  k_steps
  (refine' paint_set2 ?kF ?kN ?kX (paint59 _) ?k1 ?k2 ?ks ?kt ?k10 ?k11 ?k12 ?k13 ?_)
  (case kF => k_asm)
  (case kN => k_asm)
  (case kX => k_asm)
  (case k1 => k_mem)
  (case k2 => k_mem)
  (case ks => k_is)
  (case kt => k_is)
  (case k10 => k_get)
  (case k11 => k_put)
  (case k12 => exact Upd.head (upd3 l4))
  (case k13 => exact Nat.le_of_ble_eq_true rfl)
  k_whole
  intro h4 F4 N4
  k_steps
  rename Fr h₀ L _ m => kF
  rename News h₀ L _ _ => kN
  exact hret _ _ _ _ _ (fun p hp => Nat.ne_of_lt (Nat.lt_trans ((by assumption : ∀ p ∈ news, p.1 < _) p hp) (by assumption))) kF (fun p hp => kN p (.tail _ (.tail _ (by
    rcases List.mem_cons.mp hp with rfl | hp
    · exact .head _
    · exact .tail _ (.tail _ hp)))))
end
end
example (w : World) : (hd.heap_39 w.params = hd.heap_39 w.params) ∧ (PySem.Challenge.rw_pb0478_01.row.prog = PySem.Challenge.rw_pb0478_01.row.prog) := by
  k_fill
  exact ⟨rfl, rfl⟩
/- the pen's draws -/
section
variable {w : World} {d : Nat} {kd : Str → Option NameKind} {ρ : List (Str × AV)}
/-- all stays but what lies at pa -/
noncomputable def PMv (pa : Addr) : Led → Led → Prop
  | [], [] => True
  | p :: r, q :: t => p.1 = q.1 ∧ (p.1 ≠ pa → p = q) ∧ PMv pa r t
  | _, _ => False
theorem PMv.rfl' {pa : Addr} : ∀ {M : Led}, PMv pa M M
  | [] => trivial
  | _ :: _ => ⟨rfl, fun _ => rfl, PMv.rfl'⟩
theorem PMv.tr {pa : Addr} : ∀ {M M' M'' : Led}, PMv pa M M' → PMv pa M' M'' → PMv pa M M''
  | [], [], [], _, _ => trivial
  | _ :: _, _ :: _, _ :: _, ⟨a, b, r⟩, ⟨a', b', r'⟩ => ⟨a.trans a', fun h => (b h).trans (b' (a ▸ h)), PMv.tr r r'⟩
  | [], _ :: _, _, h, _ => h.elim
  | _ :: _, [], _, h, _ => h.elim
  | [], [], _ :: _, _, h => h.elim
  | _ :: _, _ :: _, [], _, h => h.elim
theorem PMv.split {pa : Addr} : ∀ {a M X : Led}, PMv pa (a ++ M) X → (∀ p ∈ a, p.1 ≠ pa) → ∃ M', X = a ++ M' ∧ PMv pa M M'
  | [], _, X, h, _ => ⟨X, rfl, h⟩
  | p :: a, M, q :: X, ⟨e, b, r⟩, k => by
    obtain ⟨M', e', r'⟩ := PMv.split r fun p hp => k p (.tail _ hp)
    have := b (k p (.head _))
    subst this
    exact ⟨M', by rw [e']; rfl, r'⟩
  | _ :: _, _, [], h, _ => h.elim
theorem PMv.app {pa : Addr} : ∀ {a M M' : Led}, PMv pa M M' → PMv pa (a ++ M) (a ++ M')
  | [], _, _, h => h
  | _ :: _, _, _, h => ⟨rfl, fun _ => rfl, PMv.app h⟩
theorem PMv.addr {pa : Addr} : ∀ {M M' : Led}, PMv pa M M' → M.map (·.1) = M'.map (·.1)
  | [], [], _ => rfl
  | _ :: _, _ :: _, ⟨a, _, r⟩ => by rw [List.map_cons, List.map_cons, a, PMv.addr r]
  | [], _ :: _, h => h.elim
  | _ :: _, [], h => h.elim
theorem PMv.set {pa : Addr} {o o' : Obj} : ∀ {own rest : Led}, PMv pa (own ++ (pa, o) :: rest) (own ++ (pa, o') :: rest)
  | [], _ => ⟨rfl, fun k => absurd rfl k, PMv.rfl'⟩
  | _ :: _, _ => ⟨rfl, fun _ => rfl, PMv.set⟩
theorem PMv.mem {pa q : Addr} {o : Obj} (hq : q ≠ pa) : ∀ {M M' : Led}, PMv pa M M' → (q, o) ∈ M → (q, o) ∈ M'
  | _ :: _, _ :: _, ⟨_, b, r⟩, h => by
    rcases List.mem_cons.mp h with rfl | h
    · rw [b hq]; exact .head _
    · exact .tail _ (PMv.mem hq r h)
  | [], _, _, h => by cases h
  | _ :: _, [], h, _ => h.elim
theorem PMv.at {pa q : Addr} {o : Obj} (hq : q ≠ pa) : ∀ {own rest M' : Led}, PMv pa (own ++ (q, o) :: rest) M' → ∃ own' rest', M' = own' ++ (q, o) :: rest' ∧ own.map (·.1) = own'.map (·.1) ∧ rest.map (·.1) = rest'.map (·.1)
  | [], rest, y :: M', ⟨_, b, r⟩ => ⟨[], M', by rw [← b hq]; rfl, rfl, r.addr⟩
  | p :: own, rest, y :: M', ⟨a, _, r⟩ => by
    obtain ⟨own', rest', e, e1, e2⟩ := PMv.at hq (own := own) r
    exact ⟨y :: own', rest', by rw [e]; rfl, by rw [List.map_cons, List.map_cons, a, e1], e2⟩
  | [], _, [], h => h.elim
  | _ :: _, _, [], h => h.elim
theorem addr_ne {a b : Led} {q : Addr} (e : a.map (·.1) = b.map (·.1)) (h : ∀ p ∈ a, p.1 ≠ q) : ∀ p ∈ b, p.1 ≠ q := fun p hp k => by
  have : p.1 ∈ a.map (·.1) := by rw [e]; exact List.mem_map_of_mem hp
  obtain ⟨y, hy, ey⟩ := List.mem_map.mp this
  exact h y hy (ey.trans k)
/-- the pen, drawn i times -/
structure Pen (M news : Led) (pa : Addr) (i : Int) : Prop where
  ex : ∃ (own rest : Led) (q : Addr) (t : Tok) (j : Int) (u : Tok) (n : Nat) (ys : List Value) (cnt : Nat) (ns : List Int), M = own ++ (pa, penO q i t j u n) :: rest ∧ 0 ≤ j ∧ (∀ p ∈ own, p.1 ≠ pa) ∧ (∀ p ∈ rest, p.1 ≠ pa) ∧ (q, listOf ys.toArray cnt) ∈ news ∧ IntsAre ys ns ∧ ns.length ≤ 63
theorem Pen.up {M news news' : Led} {pa : Addr} {i : Int} (x : Pen M news pa i) (k : Sub news news') : Pen M news' pa i := by
  obtain ⟨own, rest, q, t, j, u, n, ys, cnt, ns, e, hj, h1, h2, hq, hI, hl⟩ := x.ex
  exact ⟨own, rest, q, t, j, u, n, ys, cnt, ns, e, hj, h1, h2, k _ hq, hI, hl⟩
theorem Pen.pre {M news its : Led} {pa : Addr} {i : Int} (x : Pen M news pa i) (k : ∀ p ∈ its, p.1 ≠ pa) : Pen (its ++ M) news pa i := by
  obtain ⟨own, rest, q, t, j, u, n, ys, cnt, ns, e, hj, h1, h2, hq, hI, hl⟩ := x.ex
  refine ⟨its ++ own, rest, q, t, j, u, n, ys, cnt, ns, by rw [e, List.append_assoc], hj, fun p hp => ?_, h2, hq, hI, hl⟩
  rcases List.mem_append.mp hp with hp | hp
  · exact k p hp
  · exact h1 p hp
theorem Pen.post {M news its : Led} {pa : Addr} {i : Int} (x : Pen (its ++ M) news pa i) (k : ∀ p ∈ its, p.1 ≠ pa) : Pen M news pa i := by
  obtain ⟨own, rest, q, t, j, u, n, ys, cnt, ns, e, hj, h1, h2, hq, hI, hl⟩ := x.ex
  obtain ⟨own2, e2, h3⟩ := nd_tail e k h1
  exact ⟨own2, rest, q, t, j, u, n, ys, cnt, ns, e2, hj, h3, h2, hq, hI, hl⟩
theorem Pen.in' {M news : Led} {pa : Addr} {i : Int} (x : Pen M news pa i) : ∃ o, (pa, o) ∈ M ∧ ∀ v, o.data ≠ .cell v := by
  obtain ⟨own, rest, q, t, j, u, n, ys, cnt, ns, e, _⟩ := x.ex
  exact ⟨_, by rw [e]; exact List.mem_append_right _ (.head _), fun v h => by cases h⟩
theorem Pen.ncell {c : Ctx} {m : Str → Option Value} {M news : Led} {h : Heap} {pa q : Addr} {i : Int} {o : Obj} {v : Option Value} (x : Pen M news pa i) (st : St c m M news h) (hq : (q, o) ∈ M) (hc : o.data = .cell v) : q ≠ pa := fun e => by
  subst e
  obtain ⟨o', h', k⟩ := x.in'
  have e1 := (st.N _ (List.mem_append_left _ hq)).1
  have e2 := (st.N _ (List.mem_append_left _ h')).1
  have := Option.some.inj (e1.symm.trans e2)
  subst this
  exact k _ hc
/-- an expression that draws at most n times -/
noncomputable def EvP (w : World) (d : Nat) (kd : Str → Option NameKind) (ρ : List (Str × AV)) (pa : Addr) (n : Nat) (e : PySem.Expr) (P : AV → Prop) : Prop :=
  ∀ (c : Ctx) (env : Env) (m : Str → Option Value) (M news : Led) (s : Shared) (Q E : Value → Shared → Prop) (i : Int), c.Ok w d → St c m M news s.heap → (∀ M', PMv pa M M' → Sees w kd ρ env c m M' news) → Pen M news pa i → 0 ≤ i → i + n ≤ 1000 →
    (∀ v a h' tk' M' news' i', St c m M' news' h' → PMv pa M M' → Pen M' news' pa i' → i ≤ i' → i' ≤ i + n → Sub news news' → P a → Is w news' v a → Q v { s with heap := h', toks := tk' }) → wpAny (model Pr w) c.A (eval e env) Q E s
theorem EvP.of {pa : Addr} {e : PySem.Expr} {P : AV → Prop} (h : Ev w d kd ρ e P) : EvP w d kd ρ pa 0 e P := fun c env m M news s Q E i ok st se pn i0 i1 q =>
  h c env m M news s Q E ok st (se M PMv.rfl') fun v a h' tk' n' st' sb p is => q v a h' tk' M n' i st' PMv.rfl' (pn.up sb) (Int.le_refl _) (by omega) sb p is
theorem EvP.imp {pa : Addr} {n : Nat} {e : PySem.Expr} {P P' : AV → Prop} (h : EvP w d kd ρ pa n e P) (k : ∀ a, P a → P' a) : EvP w d kd ρ pa n e P' := fun c env m M news s Q E i ok st se pn i0 i1 q =>
  h c env m M news s Q E i ok st se pn i0 i1 fun v a h' tk' M' n' i' st' pm pn' i2 i3 sb p is => q v a h' tk' M' n' i' st' pm pn' i2 i3 sb (k a p) is
theorem EvP.bin {pa : Addr} {n : Nat} {l r : PySem.Expr} {op : Operator} {pos : Pos} {b : AV} {P1 P : AV → Prop} (h1 : EvP w d kd ρ pa n l P1) (h2 : Ev w d kd ρ r (· = b)) (ho : ∀ a, P1 a → Do2 w d a b (fun u v => binaryOp op u v) P) : EvP w d kd ρ pa n (.BinOp l op r pos) P := fun c env m M news s Q E i ok st se pn i0 i1 q =>
  wpAny_BinOp (h1 c env m M news s _ E i ok st se pn i0 i1 fun u a h' tk' M' n' i' st' pm pn' i2 i3 sb p is => h2 c env m M' n' _ _ E ok st' ((se M' pm).up sb) fun v b' h2 tk2 n2 st2 sb2 p2 is2 => by
    subst p2
    exact ho a p c m M' n2 _ u v Q E ok st2 (is.up sb2) is2 fun v a h3 tk3 n3 st3 sb3 hp ip => q v a h3 tk3 M' n3 i' st3 pm ((pn'.up sb2).up sb3) i2 i3 ((sb.tr sb2).tr sb3) hp ip)
theorem EvP.list2 {pa : Addr} {n1 n2 : Nat} {e1 e2 : PySem.Expr} {pos : Pos} {P1 P2 : AV → Prop} (h1 : EvP w d kd ρ pa n1 e1 P1) (h2 : EvP w d kd ρ pa n2 e2 P2)
    (k : ∀ env, starEach [e1, e2] env = (false, eval e1 env) :: starEach [e2] env := by intro _; with_unfolding_all rfl) (k' : ∀ env, starEach [e2] env = (false, eval e2 env) :: starEach [] env := by intro _; with_unfolding_all rfl) : EvP w d kd ρ pa (n1 + n2) (.List [e1, e2] pos) (fun a => ∃ x y, P1 x ∧ P2 y ∧ a = .lst [x, y]) := fun c env m M news s Q E i ok st se pn i0 i1 q =>
  List_ (args_cons (h1 c env m M news s _ E i ok st se pn i0 (by omega) fun v a h' tk' M' n' i' st' pm pn' i2 i3 sb p is =>
    args_cons (h2 c env m M' n' _ _ E i' ok st' (fun M'' pm' => (se M'' (pm.tr pm')).up sb) pn' (by omega) (by omega) fun v2 a2 h2 tk2 M2 n2 j2 st2 pm2 pn2 i4 i5 sb2 p2 is2 =>
      args_nil (newList_K st2.F st2.N (fun D h3 F3 N3 lt => q _ _ _ _ M2 _ j2 (st2.push F3 N3 lt) (pm.tr pm2) (pn2.up Sub.cons') (by omega) (by omega) ((sb.tr sb2).tr Sub.cons') ⟨a, a2, p, p2, rfl⟩ (.lst (.head _) (.cons ((is.up sb2).up Sub.cons') (.one (is2.up Sub.cons'))))) (by rw [sizeLine_eq]; exact Nat.le_of_ble_eq_true rfl))) (k' env)) (k env))
theorem EvP.item {pa : Addr} {n1 n2 : Nat} {o e : PySem.Expr} {pos : Pos} {P : AV → Prop} {P1 P2 : AV → Prop} (h1 : EvP w d kd ρ pa n1 o P1) (h2 : EvP w d kd ρ pa n2 e P2) (hP : ∀ a b, P1 a → P2 b → ∃ l k x, a = .lst l ∧ b = .int k ∧ 0 ≤ k ∧ k < 2 ^ 63 ∧ l[k.toNat]? = some x ∧ P x)
    (k1 : ∀ (b : Addr) (k : Int) (u : Tok), subscripted e false (.ref b) (.int k u) = operate [.ref b, .int k u] (getItem (.ref b) (.int k u)) := by intro _ _ _; with_unfolding_all rfl) : EvP w d kd ρ pa (n1 + n2) (.Subscript o e pos) P := fun c env m M news s Q E i ok st se pn i0 i1 q =>
  Subscript_ (h1 c env m M news s _ E i ok st se pn i0 (by omega) fun v a h' tk' M' n' i' st' pm pn' i2 i3 sb p is =>
    h2 c env m M' n' _ _ E i' ok st' (fun M'' pm' => (se M'' (pm.tr pm')).up sb) pn' (by omega) (by omega) fun v2 a2 h2 tk2 M2 n2 j2 st2 pm2 pn2 i4 i5 sb2 p2 is2 => by
      obtain ⟨l, k, x, rfl, rfl, k0, k2, hx, px⟩ := hP a a2 p p2
      cases is2
      cases is.up sb2 with | lst hm hs =>
      obtain ⟨y, hx1, hx2⟩ := hs.get _ hx
      exact item_led' st2.N (st2.mem hm) k0 k2 hx1 (q _ _ _ _ M2 _ j2 st2 (pm.tr pm2) pn2 (by omega) (by omega) (sb.tr sb2) px hx2) (k1 _ _ _))
theorem upd_of {pa : Addr} {o : Obj} : ∀ {own rest : Led}, (∀ p ∈ own, p.1 ≠ pa) → (∀ p ∈ rest, p.1 ≠ pa) → UpdF pa o (own ++ (pa, o) :: rest) (fun o' => own ++ (pa, o') :: rest)
  | [], _, _, h => .head h
  | _ :: _, _, h1, h => .tail (h1 _ (.head _)) (upd_of (fun p hp => h1 p (.tail _ hp)) h)
theorem EvP.draw {pa : Addr} {x y : Str} {p p2 cpos pos : Pos} {k : Int} {kk : Nat} (hf : Ev w (d + 60) kd ρ (.Name x p) (· = .val (.ref 458))) (hp : Ev w (d + 60) kd ρ (.Name y p2) (· = .val (.ref pa))) (hk0 : 0 < k) (hk1 : k < 100000)
    (k1 : ∀ env, starEach [.Name y p2, .Constant (.int k) kk cpos] env = (false, eval (.Name y p2) env) :: starEach [.Constant (.int k) kk cpos] env := by intro _; with_unfolding_all rfl)
    (k2 : ∀ env, starEach [.Constant (.int k) kk cpos] env = (false, eval (.Constant (.int k) kk cpos) env) :: starEach [] env := by intro _; with_unfolding_all rfl)
    (k3 : ∀ env, ((backTo pos (starEach [.Constant (.int k) kk cpos] env)).any fun x => x.1) = false := by intro _; with_unfolding_all rfl) : EvP w (d + 60) kd ρ pa 1 (.Call (.Name x p) [.Name y p2, .Constant (.int k) kk cpos] [] pos) (fun a => ∃ z, a = .int z ∧ 0 ≤ z ∧ z < k) := fun c env m M news s Q E i ok st se pn i0 i1 q =>
  Call_ (hf c env m M news s _ E ok st (se M PMv.rfl') fun v a h' tk' n' st' sb p i => by
    subst p
    cases i
    refine callWith_K (first := []) ok.X (by kernel_rfl) ((Evs.consD hp (Evs.consD (Ev.cint (i := k)) Evs.nil k2) k1) pos c env m M n' _ _ E ok st' ((se M PMv.rfl').up sb) fun vs l' h2 tk2 n2 st2 sb2 p2 al => ⟨ok.X.keeps st2.F.keep, ?_⟩) (k1 env) (k3 env)
    subst p2
    obtain ⟨u, v, rfl, i1', i2'⟩ := al.inv2
    cases i1'
    cases i2'
    obtain ⟨own, rest, q0, t, j, u, n, ys, cnt, ns, e, hj, h1, h3, hq, hI, hl⟩ := (pn.up (sb.tr sb2)).ex
    have U : UpdF pa (penO q0 i t j u n) (M ++ n2) (fun o' => own ++ (pa, o') :: (rest ++ n2)) := by
      rw [e, List.append_assoc]
      refine upd_of h1 fun p hp => ?_
      rcases List.mem_append.mp hp with hp | hp
      · exact h3 p hp
      · exact st2.A p hp (pa, penO q0 i t j u n) (by rw [e]; exact List.mem_append_right _ (.head _))
    refine ct_draw ok.B st2.F ok.X st2.N ok.T ok.hk (by have := ok.hd; omega) (by have := ok.hu; omega) U (List.mem_append_right _ hq) hI hl hk0 hk1 i0 (by omega) hj fun dd td i' t' j' u' n' h' tk' d0 d1 j0 j1 j2 F' N' => ?_
    have st3 : St c m (own ++ (pa, penO q0 i' t' j' u' n') :: rest) n2 h' := ⟨F', by rw [List.append_assoc]; exact N', fun p hp y hy => by
      rcases List.mem_append.mp hy with hy | hy
      · exact st2.A p hp y (by rw [e]; exact List.mem_append_left _ hy)
      · rcases List.mem_cons.mp hy with rfl | hy
        · exact st2.A p hp (pa, penO q0 i t j u n) (by rw [e]; exact List.mem_append_right _ (.head _))
        · exact st2.A p hp y (by rw [e]; exact List.mem_append_right _ (.tail _ hy))⟩
    exact q _ _ _ _ _ n2 i' st3 (by rw [e]; exact PMv.set) ⟨own, rest, q0, t', j', u', n', ys, cnt, ns, rfl, j2, h1, h3, hq, hI, hl⟩ j0 (by omega) (sb.tr sb2) ⟨dd, rfl, d0, d1⟩ (.int _ _))
end
/- the drawn list -/
section
open LCg
variable {w : World} {d : Nat} {kd : Str → Option NameKind} {ρ : List (Str × AV)}
theorem Loc.pmv {c : Ctx} {m : Str → Option Value} {M M' news : Led} {h : Heap} {pa : Addr} {i : Int} (lo : Loc w kd ρ c m M news) (st : St c m M news h) (pn : Pen M news pa i) (pm : PMv pa M M') : Loc w kd ρ c m M' news :=
  ⟨lo.kof, fun x a hx => (lo.nm x a hx).imp id fun ⟨k, q, o, v, e1, e2, e3, is⟩ => ⟨k, q, o, v, e1, pm.mem (pn.ncell st e2 e3) e2, e3, is⟩, lo.ap, fun x q hq => by
    obtain ⟨own, o, rest, v₀, e, hd, h1, h2⟩ := lo.nd x q hq
    have hne := pn.ncell st (q := q) (o := o) (by rw [e]; exact List.mem_append_right _ (.head _)) hd
    rw [e] at pm
    obtain ⟨own', rest', e', a1, a2⟩ := pm.at hne
    exact ⟨own', o, rest', v₀, e', hd, addr_ne a1 h1, addr_ne a2 h2⟩, lo.hc⟩
theorem rest_draws {c : Ctx} {env : Env} {m : Str → Option Value} {M : Led} {s : Shared} {elt : PySem.Expr} {x : Str} {sc : Scope} {cl : List (Str × Addr)} {pa : Addr} {n : Nat} {P : AV → Prop} {κ : List (Str × AV)} {Fin : List Value → Led → Prop} {i₀ : Int} {n₀ : Led} {kk : Nat} (ok : c.Ok w d) (hsk : sc.kind = .function) (hx : sc.names.lookup x = some .local)
    (hb : ∀ j : Int, EvP w d (relK kd sc) ((x, .int j) :: κ) pa n elt P) (hi0 : 0 ≤ i₀) (hi1 : i₀ + n * kk ≤ 1000)
    (se : ∀ M', PMv pa M M' → Sees w kd ρ env c m M' n₀)
    (hκ : ∀ y b, Lk κ y b → relK kd sc y = some .cell ∧ ∃ q o v, cl.lookup y = some q ∧ (q, o) ∈ M ∧ q ≠ pa ∧ o.data = .cell (some v) ∧ Is w n₀ v b)
    (fin : ∀ ys l M' news i', PMv pa M M' → Pen M' news pa i' → i₀ ≤ i' → i' ≤ i₀ + n * kk → Ap M' news → Sub n₀ news → l.length = kk → (∀ a ∈ l, P a) → Alls w news ys l → Fin ys (M' ++ news)) :
    ∀ (k j : Nat) (ys : List Value) (l : List AV) (M' news : Led) (i : Int), j + k = kk → PMv pa M M' → Pen M' news pa i → i₀ ≤ i → i ≤ i₀ + n * j → l.length = j → (∀ a ∈ l, P a) → Alls w news ys l → Ap M' news → Sub n₀ news →
      CompRest Pr w c.A c.h₀ c.L m env elt x sc cl s (fun _ => True) (fun i v => ∃ t, v = .int (0 + (i : Int)) t) Fin k j ys (M' ++ news)
  | 0, j, ys, l, M', news, i, hn, pm, pn, i1, i2, hl, hP, al, ap, sb => by
    obtain rfl : j = kk := by omega
    exact CompRest.zero (fin ys l M' news i pm pn i1 i2 ap sb hl hP al)
  | k + 1, j, ys, l, M', news, i, hn, pm, pn, i1, i2, hl, hP, al, ap, sb => by
    refine CompRest.succ fun v I oI C oC D m₂ h tk E' hv hoC hxv F N off ne => ?_
    obtain ⟨t, rfl⟩ := hv
    obtain ⟨op, hop, _⟩ := pn.in'
    have o3 := off.mem _ (List.mem_append_left _ hop)
    have hne : ∀ p ∈ ([(I, oI), (C, oC), (D, lst ys)] : Led), p.1 ≠ pa := fun p hp => by
      simp only [List.mem_cons, List.not_mem_nil, or_false] at hp
      rcases hp with rfl | rfl | rfl
      · exact o3.1.symm
      · exact o3.2.1.symm
      · exact o3.2.2.symm
    have hnj : (n : Int) * (j + 1 : Nat) ≤ n * kk := by
      have : n * (j + 1) ≤ n * kk := Nat.mul_le_mul_left _ (by omega)
      exact_mod_cast this
    have hnj2 : (n : Int) * (j + 1 : Nat) = n * j + n := by rw [Int.natCast_add]; simp [Int.mul_add]
    refine hb (0 + (j : Int)) c (compEnvC sc cl C env) m ((I, oI) :: (C, oC) :: (D, lst ys) :: M') news { s with heap := h, toks := tk } _ E' i ok (st_comp F N off ap) (fun M'' pm' => ?_) (pn.pre (its := [(I, oI), (C, oC), (D, lst ys)]) hne) (by omega) (by omega) fun y b h' tk' M'' n' i' st' pm' pn' j1 j2 sb' p ib => ?_
    · obtain ⟨M3, rfl, pm3⟩ := PMv.split (a := [(I, oI), (C, oC), (D, lst ys)]) pm' hne
      exact sees_comp ((se M3 (pm.tr pm3)).up sb) hsk hx hoC hxv (.int _ _) fun y b hy => by
        obtain ⟨k, q, o, u, e1, e2, e3, e4, j⟩ := hκ y b hy
        exact ⟨k, q, o, u, e1, (pm.tr pm3).mem e3 e2, e4, j.up sb⟩
    · obtain ⟨M3, rfl, pm3⟩ := PMv.split (a := [(I, oI), (C, oC), (D, lst ys)]) pm' hne
      have addr : ∀ p ∈ M3, ∃ y ∈ M', y.1 = p.1 := fun p hp => by
        have : p.1 ∈ M'.map (·.1) := by rw [pm3.addr]; exact List.mem_map_of_mem hp
        obtain ⟨y, hy, e⟩ := List.mem_map.mp this; exact ⟨y, hy, e⟩
      refine ⟨h', tk', M3 ++ n', rfl, st'.F, st'.N, Off3.of fun p hp => ?_, trivial, ?_⟩
      · rcases List.mem_append.mp hp with hp | hp
        · obtain ⟨y, hy, e⟩ := addr p hp
          have := off.mem y (List.mem_append_left _ hy)
          rw [e] at this; exact this
        · exact ⟨st'.A p hp _ (.head _), st'.A p hp _ (.tail _ (.head _)), st'.A p hp _ (.tail _ (.tail _ (.head _)))⟩
      · refine rest_draws ok hsk hx hb hi0 hi1 se hκ fin k (j + 1) (ys ++ [y]) (l ++ [b]) M3 n' i' (by omega) (pm.tr pm3) (pn'.post (its := [(I, oI), (C, oC), (D, lst ys)]) hne) (by omega) (by omega) (by rw [List.length_append, hl]; rfl) ?_ ((al.up sb').app (.one ib)) (st_out st') (sb.tr sb')
        intro a ha
        rcases List.mem_append.mp ha with ha | ha
        · exact hP a ha
        · rw [List.mem_singleton.mp ha]; exact p
/-- z = [elt for x in range(count)], the element drawing -/
theorem Ex1.draws {c : Ctx} {m : Str → Option Value} {M news : Led} {s : Shared} {Q : Flow → Shared → Prop} {E : Value → Shared → Prop} {elt : PySem.Expr} {x y z rg cn : Str} {px pz pos sp rp cp gp : Pos} {sc : Scope} {pa : Addr} {n kk : Nat} {P : AV → Prop} {i : Int} (ok : c.Ok w d) (ow : PassesOwn (model Pr w) c.A c.env E) (st : St c m M news s.heap) (lo : Loc w kd ρ c m M news) (pn : Pen M news pa i) (hi0 : 0 ≤ i) (hi1 : i + n * kk ≤ 1000) (hkk : kk ≤ 1000)
    (hrg : Ev w d kd ρ (.Name rg rp) (· = .val (.type "range"))) (hcn : Ev w d kd ρ (.Name cn cp) (· = .int (kk : Int))) (hsc : okSc sc x = true) (hy : Lk ρ y (.val (.ref pa))) (hky : kd y = some .cell) (hry : relK kd sc y = some .cell)
    (hb : ∀ j : Int, EvP w d (relK kd sc) [(x, .int j), (y, .val (.ref pa))] pa n elt P) (hl : kd z = some .local)
    (q : ∀ l m' M' h' tk' news' i', l.length = kk → (∀ a ∈ l, P a) → St c m' M' news' h' → Loc w kd ((z, .lst l) :: ρ) c m' M' news' → PMv pa M M' → Pen M' news' pa i' → i ≤ i' → i' ≤ i + n * kk → Sub news news' → Q .next { s with heap := h', toks := tk' })
    (hcl : ∀ (env : Env) (q : Addr), env.cells.lookup y = some q → closureFor sc env = pure [(y, q)])
    (k1 : ∀ env, starEach [.Name cn cp] env = (false, eval (.Name cn cp) env) :: starEach [] env := by intro _; with_unfolding_all rfl) (k2 : ∀ env, ((backTo gp (starEach [] env)).any fun x => x.1) = false := by intro _; with_unfolding_all rfl)
    (hs : ∀ env v, foldedSetIterable (.Call (.Name rg rp) [.Name cn cp] [] gp) env v = pure v := by intro _ _; with_unfolding_all rfl)
    (hsw : (pz.line == pos.line && !(sc.names.any fun y => y.1 == z && (y.2 == .local || y.2 == .cell))) = true := by kernel_rfl) :
    wpAny (model Pr w) c.A (exec (.Assign [.Name z pz] (.ListComp elt [⟨.Name x px, .Call (.Name rg rp) [.Name cn cp] [] gp, [], 0⟩] sc pos) sp) c.env) Q E s := by
  obtain ⟨h1, h2, h3, h4⟩ := okSc_at hsc
  have hlz : c.env.kindOf z = some .local := by rw [lo.kof]; exact hl
  obtain ⟨k, _⟩ | ⟨_, ca, o, u, e1, e2, e3, j⟩ := lo.nm y _ hy
  · rw [hky] at k; cases k
  have hc := hcl c.env ca e1
  have se := lo.sees ok.hk
  refine Assign_ListComp_U st.F rfl (swaps_comp ok.hk hlz hsw) hc h1 h4 h2 h3 hlz (by show (c.cs.kind == .class || (c.cs.kind == .module && c.L != mainGlobals)) = false; rw [ok.hk]; rfl) (Call_ (hrg c c.env m M news s _ E ok st se fun v a' h' tk' n' st' sb p is => ?_)) (hs c.env)
  subst p
  cases is
  refine PySem.Pv.callWith_type1 ((Evs.consD hcn Evs.nil k1) gp c c.env m M n' _ _ E ok st' (se.up sb) fun vs l' h2' tk2 n2 st2 sb2 p2 al => ?_) (k1 _) (k2 _)
  subst p2
  obtain ⟨u', rfl, i1⟩ := al.inv1
  cases i1
  refine range1_rows st2.F st2.N fun h3' tk3 t₁ u₁ v₁ hr F3 N3 kp => ?_
  refine CompSrc.range rfl F3 N3 hr (small_one (by decide) (by decide) (by omega) (by omega)) (n := kk) (by rw [rangeSize_nat]; simp) (by rw [sizeLine_eq]; omega) fun g => ?_
  refine rest_draws (i₀ := i) (n₀ := n2) (kk := kk) (P := P) (κ := [(y, .val (.ref pa))]) ok h4 h3 hb hi0 hi1 (fun M' pm => ((lo.pmv st pn pm).sees ok.hk).up (sb.tr sb2)) (fun y' b' hy' => ?_) (fun ys l M' news' i' pm pn' j1 j2 ap sb3 hll hP al D h tk F N o1 => ?_) kk 0 [] [] M n2 i (by omega) PMv.rfl' (pn.up (sb.tr sb2)) (Int.le_refl _) (by simp) rfl (by simp) .nil st2.A Sub.rfl'
  · cases hy' with
    | hd => exact ⟨hry, ca, o, u, by rw [List.lookup_cons]; simp, e2, pn.ncell st e2 e3, e3, j.up (sb.tr sb2)⟩
    | tl _ h => cases h
  · exact q l _ M' h tk _ i' hll hP (st_fin F N o1 ap) ((((lo.pmv st pn pm).up (((sb.tr sb2).tr sb3).tr Sub.cons'))).setL hl (.lst (.head _) (al.up Sub.cons'))) pm (pn'.up Sub.cons') j1 j2 (((sb.tr sb2).tr sb3).tr Sub.cons')
end
/- an exception of class 59 raised -/
section
variable {w : World} {d : Nat} {kd : Str → Option NameKind} {ρ : List (Str × AV)}
/-- on its way, as the caller sees it -/
noncomputable def Flown (c : Ctx) (m : Str → Option Value) (M news : Led) (e : Addr) (h' : Heap) : Prop := ∃ G, Fr c.h₀ c.L G m ∧ RaisedSN c.base G (c.env :: c.outer) e (.ref 59) news h' ∧ G.UpToSlots h' ∧ ∀ p ∈ M, G.get? p.1 = some p.2
theorem Flown.sub {c : Ctx} {m : Str → Option Value} {M news n' : Led} {e : Addr} {h' : Heap} (x : Flown c m M n' e h') (k : Sub news n') : Flown c m M news e h' := by
  obtain ⟨G, F, ⟨B, a0, h1, h2, h3, h4⟩, U, k'⟩ := x
  exact ⟨G, F, ⟨B, a0, h1, h2, fun q hq => h3 q (k q hq), h4⟩, U, k'⟩
/-- a def that raises -/
noncomputable def FnX (w : World) (d : Nat) (f : Addr) (l : List AV) : Prop := ∀ (c : Ctx) (m : Str → Option Value) (M news : Led) (s : Shared) (vs : List Value) (Q E : Value → Shared → Prop), c.Ok w d → St c m M news s.heap → Alls w news vs l →
  (∀ e h' tk', Flown c m M news e h' → E (.ref e) { s with heap := h', toks := tk' }) → wpAny (model Pr w) c.A (PySem.call (.ref f) vs) Q E s
/-- an expression that raises -/
noncomputable def EvX (w : World) (d : Nat) (kd : Str → Option NameKind) (ρ : List (Str × AV)) (e : PySem.Expr) : Prop := ∀ (c : Ctx) (env : Env) (m : Str → Option Value) (M news : Led) (s : Shared) (Q E : Value → Shared → Prop), c.Ok w d → St c m M news s.heap → Sees w kd ρ env c m M news →
  (∀ e h' tk', Flown c m M news e h' → E (.ref e) { s with heap := h', toks := tk' }) → wpAny (model Pr w) c.A (eval e env) Q E s
/-- raised in the frame, or on its way through it -/
noncomputable def Thr (c : Ctx) (news : Led) (e : Addr) (h' : Heap) : Prop := (∃ m M n' t d, St c m M n' h' ∧ (e, excD 59 t d) ∈ n' ∧ Sub news n' ∧ ∀ p ∈ news, p.1 ≠ e) ∨ ∃ m M, Flown c m M news e h'
theorem Thr.sub {c : Ctx} {news n' : Led} {e : Addr} {h' : Heap} (x : Thr c n' e h') (k : Sub news n') : Thr c news e h' :=
  x.imp (fun ⟨m, M, n2, t, d, st, h1, h2, h3⟩ => ⟨m, M, n2, t, d, st, h1, k.tr h2, fun p hp => h3 p (k p hp)⟩) fun ⟨m, M, f⟩ => ⟨m, M, f.sub k⟩
noncomputable def ExX (w : World) (d : Nat) (kd : Str → Option NameKind) (ρ : List (Str × AV)) (sts : List Stmt) : Prop := ∀ (c : Ctx) (m : Str → Option Value) (M news : Led) (s : Shared) (Q : Flow → Shared → Prop) (E : Value → Shared → Prop), c.Ok w d → PassesOwn (model Pr w) c.A c.env E → St c m M news s.heap → Loc w kd ρ c m M news →
  (∀ e h' tk', Thr c news e h' → E (.ref e) { s with heap := h', toks := tk' }) → wpAny (model Pr w) c.A (execs sts c.env) Q E s
theorem EvX.call {x : Str} {p pos : Pos} {f : Addr} {e : PySem.Expr} {es : List PySem.Expr} {l : List AV} (hf : Ev w d kd ρ (.Name x p) (· = .val (.ref f))) (hk : keepIn (hd.heap_39 w.params) (.ref f) = true) (ha : Evs w d kd ρ (e :: es) (· = l)) (hF : FnX w d f l)
    (k1 : ∀ env, starEach (e :: es) env = (false, eval e env) :: starEach es env := by intro _; with_unfolding_all rfl) (k2 : ∀ env, ((backTo pos (starEach es env)).any fun x => x.1) = false := by intro _; with_unfolding_all rfl) : EvX w d kd ρ (.Call (.Name x p) (e :: es) [] pos) := fun c env m M news s Q E ok st se q =>
  Call_ (hf c env m M news s _ E ok st se fun v a h' tk' n' st' sb p i => by
    subst p
    cases i
    exact callWith_K (first := []) ok.X hk (ha pos c env m M n' _ _ E ok st' (se.up sb) fun vs l' h2 tk2 n2 st2 sb2 p2 al => ⟨ok.X.keeps st2.F.keep, by
      subst p2
      exact hF c m M n2 _ vs Q E ok st2 al fun e h3 tk3 fl => q e h3 tk3 (fl.sub (sb.tr sb2))⟩) (k1 env) (k2 env))
theorem ExX.set {x : Str} {px pos : Pos} {e : PySem.Expr} {sts : List Stmt} (h : EvX w d kd ρ e) (k : ∀ env, swapsWith e (some (PySem.Expr.Name x px)) pos.line env = pure false := by intro _; with_unfolding_all rfl) : ExX w d kd ρ (.Assign [.Name x px] e pos :: sts) := fun c m M news s Q E ok ow st lo q =>
  wpAny_execs_cons (wpAny_Assign_Name (h c c.env m M news s _ E ok st (lo.sees ok.hk) fun e h' tk' fl => q e h' tk' (.inr ⟨_, _, fl⟩)) (k _))
theorem ExX.cons {st : Stmt} {sts : List Stmt} {N : List (Str × AV) → Prop} (h : Ex1 w d kd ρ st N (fun _ => False)) (k : ∀ ρ', N ρ' → ExX w d kd ρ' sts) : ExX w d kd ρ (st :: sts) := fun c m M news s Q E ok ow st lo q =>
  wpAny_execs_cons (h c m M news s _ E ok ow st lo (fun ρ' m' M' h' tk' n' st' lo' mv sb hn => k ρ' hn c m' M' n' _ Q E ok ow st' lo' fun e h2 tk2 th => q e h2 tk2 (th.sub sb)) fun _ _ _ _ _ _ _ _ _ f _ => f.elim)
theorem ExX.ifT {t : PySem.Expr} {body orelse sts : List Stmt} {pos : Pos} (h : Ts w d kd ρ t (· = true)) (hb : ExX w d kd ρ body) : ExX w d kd ρ (.If t body orelse pos :: sts) := fun c m M news s Q E ok ow st lo q =>
  wpAny_execs_cons (wpAny_If (h c c.env m M news s _ E ok st (lo.sees ok.hk) fun b h' tk' n' st' sb p => by
    subst p
    exact (if_pos rfl).mpr (hb c m M n' _ _ E ok ow st' (lo.up sb) fun e h2 tk2 th => q e h2 tk2 (th.sub sb))))
theorem ExX.raise {x : Str} {p pos rp : Pos} {e : PySem.Expr} {sts : List Stmt} (hd' : 10 ≤ d) (hf : Ev w d kd ρ (.Name x p) (· = .val (.ref 59))) (ha : Ev w d kd ρ e (fun a => ∃ x, a = .str x))
    (k0 : ∀ env, starEach [e] env = (false, eval e env) :: starEach [] env := by intro _; with_unfolding_all rfl) (k2 : ∀ env, ((backTo pos (starEach [] env)).any fun x => x.1) = false := by intro _; with_unfolding_all rfl) : ExX w d kd ρ (.Raise (some (.Call (.Name x p) [e] [] pos)) none rp :: sts) := fun c m M news s Q E ok ow st lo q =>
  wpAny_execs_cons (raise_open (paint59 w) rfl (Call_ (hf c c.env m M news s _ E ok st (lo.sees ok.hk) fun v a h' tk' n' st' sb p i => by
    subst p
    cases i
    refine callWith_K (first := []) ok.X (by kernel_rfl) ((Evs.cons ha Evs.nil k0) pos c c.env m M n' _ _ E ok st' ((lo.up sb).sees ok.hk) fun vs l' h2 tk2 n2 st2 sb2 p2 al => ⟨ok.X.keeps st2.F.keep, ?_⟩) (k0 _) (k2 _)
    obtain ⟨_, _, ⟨y, rfl⟩, rfl, rfl⟩ := p2
    obtain ⟨u, rfl, i1⟩ := al.inv1
    cases i1
    refine ct_paint ok.B st2.F ok.X st2.N ok.T ok.hk (by have := ok.hd; omega) fun ee t dd h3 tk3 hne F3 N3 => ?_
    have N4 : News c.h₀ c.L h3 (M ++ (ee, excD 59 t dd) :: n2) := fun p hp => N3 p (by simp only [List.mem_append, List.mem_cons] at hp ⊢; rcases hp with h | h | h <;> simp [h])
    have st3 : St c m M ((ee, excD 59 t dd) :: n2) h3 := ⟨F3, N4, fun p hp y hy => by
      rcases List.mem_cons.mp hp with rfl | hp
      · exact (hne y (List.mem_append_left _ hy)).symm
      · exact st2.A p hp y hy⟩
    exact raiseV_of F3 N3 ok.X (.head _) (q ee h3 tk3 (.inl ⟨_, _, _, t, dd, st3, .head _, ((sb.tr sb2).tr Sub.cons'), fun p hp => hne p (List.mem_append_right _ (sb2 _ (sb _ hp)))⟩)))))
theorem rev_none {x : Str} : ∀ {r : List (Str × Value)}, (∀ p ∈ r, p.1 ≠ x) → r.lookup x = none
  | [], _ => rfl
  | p :: r, h => by
    rw [List.lookup_cons, show (x == p.1) = false by simpa using (h p (.head _)).symm]
    exact rev_none fun q hq => h q (.tail _ hq)
theorem lk_app {x : Str} {b : List (Str × Value)} : ∀ {a : List (Str × Value)}, (a ++ b).lookup x = (a.lookup x).or (b.lookup x)
  | [] => rfl
  | p :: a => by
    rw [List.cons_append, List.lookup_cons, List.lookup_cons]
    cases x == p.1 with
    | true => rfl
    | false => exact lk_app
theorem rev_lk {news : Led} : ∀ {xs : List Str} {vs : List Value} {l : List AV} {x : Str} {a : AV}, xs.Nodup → Alls w news vs l → Lk (xs.zip l) x a → ∃ v, Is w news v a ∧ (xs.zip vs).reverse.lookup x = some v
  | [], _, _, _, _, _, _, h => by cases h
  | y :: xs, _, _, x, a, hn, .nil, h => by cases h
  | y :: xs, _, _, x, a, hn, .cons (v := v) (vs := vs) (l := l) i is, h => by
    rw [List.zip_cons_cons, List.reverse_cons, lk_app]
    obtain ⟨n1, n2⟩ := List.nodup_cons.mp hn
    rw [List.zip_cons_cons] at h
    cases h with
    | hd =>
      refine ⟨v, i, ?_⟩
      rw [rev_none fun p hp e => n1 (by
        have := (List.of_mem_zip (a := p.1) (b := p.2) (List.mem_reverse.mp hp)).1
        rwa [e] at this), List.lookup_cons, beq_self_eq_true]
      rfl
    | tl hne h =>
      obtain ⟨u, iu, e⟩ := rev_lk n2 is h
      exact ⟨u, iu, by rw [e]; rfl⟩
theorem FnX.of {f : Addr} {l : List AV} {name qual : Str} {params : Arguments} {body : List Stmt} {scope : Scope} {dV kV doc pm cdv ct oc : Value} {an od : Option Addr} {osl : Array (Option Value)}
    (ho : List.lookup f (hd.heap_39 w.params) = some ⟨oc, od, .func (fnOf name qual params body scope dV kV doc pm an cdv ct), osl⟩) (hcd : codeIn (hd.heap_39 w.params) cdv qual = true)
    (hb : ∀ (s : Shared) (vs : List Value), vs.length = l.length → BindsTo s (fnOf name qual params body scope dV kV doc pm an cdv ct) ⟨vs, []⟩ ((params.args.map (·.arg)).zip vs))
    (hx : ((params.args.map (·.arg)).all fun x => scope.names.lookup x == some .local) = true) (hnx : (params.args.map (·.arg)).Nodup) (hnc : (scope.names.all fun x => x.2 != .cell) = true)
    (hco : scope.isCoroutine = false) (hgen : scope.isGenerator = false) (hkd : scope.kind = .function)
    (hbody : ExX w d (fun x => scope.names.lookup x) ((params.args.map (·.arg)).zip l) body) : FnX w (d + 1) f l := by
  generalize params.args.map (·.arg) = xs at hb hx hnx hbody
  intro c m M news s vs Q E ok st al q
  refine wpAny_call ?_
  have hkx : ∀ x ∈ xs, scope.names.lookup x = some .local := fun x hm => by simpa using List.all_eq_true.mp hx x hm
  have hcell : ∀ x ∈ scope.names, x.2 ≠ .cell := fun x hm => by simpa using List.all_eq_true.mp hnc x hm
  refine code_defR ok.B st.F ok.X (news_sub' st.N) ok.T rfl rfl ok.hk ho hcd (Nat.lt_of_le_of_lt (Nat.le_add_right _ _) ok.hd) (hb s vs al.length) (fun p hp => hkx _ (zip_fst hp)) ?_ hco hgen hkd hcell
  intro g L' h₁ FG F' N' B' X' T' hg
  let c' : Ctx := { dp := c.dp + 1, un := c.un + 3, gd := c.gd, cn := qual, cs := scope, L := L', a := f, ccd := cdv, cl := [], outer := c.env :: c.outer, A₀ := c.A, base := c.base, h₀ := g, mean := c.mean, mg := c.mg, mb := c.mb }
  have ok' : c'.Ok w d := ⟨B', X', T', hkd, by have := ok.hd; show c.dp + 1 + d < _; omega, by have := ok.hu; show c.un + 3 + 8 * d + 100 < _; omega⟩
  have st' : St c' _ [] news h₁ := ⟨F', N', fun p hp y hy => nomatch hy⟩
  have nocell : ∀ x, scope.names.lookup x ≠ some .cell := fun x e => hcell _ (mem_of_lookup e) rfl
  have lo' : Loc w (fun x => scope.names.lookup x) (xs.zip l) c' (fun y => (xs.zip vs).reverse.lookup y) [] news := by
    refine ⟨rfl, fun x a hl => ?_, fun x y z e1 e2 => (nomatch e1), fun x z e => (nomatch e), fun x k => absurd k (nocell x)⟩
    obtain ⟨v, i, k1⟩ := rev_lk hnx al hl
    exact .inl ⟨hkx x hl.fst, v, k1, i⟩
  have fm : ∀ p ∈ M, g.get? p.1 = some p.2 := fun y hy => hg _ _ (st.N y (List.mem_append_left _ hy)).1 fun hm => by
    obtain ⟨z, hz, e⟩ := List.mem_map.mp hm
    exact st.A z hz y hy e
  refine hbody c' _ [] news _ _ _ ok' PassesOwn.leaving st' lo' fun e h' tk' th => ?_
  rcases th with ⟨m', M', n', t, dd, st2, h1, h2, h3⟩ | ⟨m', M', G, F2, R, U, _⟩
  · refine leave_mine (t := t) (d := dd) B' st2.F (fun p hp => st2.N p ?_) (Del.head h3) (fun h2 R U => q e h2 tk' ⟨g, FG, R, U, fm⟩) hkd
    rcases List.mem_cons.mp hp with rfl | hp
    · exact List.mem_append_right _ h1
    · exact List.mem_append_right _ (h2 _ hp)
  · exact leave_onSN B' F2 R U fun h2 R2 _ U2 => q e h2 tk' ⟨g, FG, R2, U2, fm⟩
end
/- the law's loop: turns that draw -/
section
variable {w : World} {d : Nat} {kd : Str → Option NameKind}
/-- what may change: cells of the frame, the pen -/
noncomputable def Cg (c : Ctx) (pa : Addr) : Led → Led → Prop
  | [], [] => True
  | p :: r, q :: t => p.1 = q.1 ∧ ((∀ x, c.cl.lookup x ≠ some p.1) → p.1 ≠ pa → p = q) ∧ Cg c pa r t
  | _, _ => False
theorem Cg.ofMv {c : Ctx} {pa : Addr} : ∀ {M M' : Led}, Mv c M M' → Cg c pa M M'
  | [], [], _ => trivial
  | _ :: _, _ :: _, ⟨a, b, r⟩ => ⟨a, fun h _ => b h, Cg.ofMv r⟩
  | [], _ :: _, h => h.elim
  | _ :: _, [], h => h.elim
theorem Cg.ofP {c : Ctx} {pa : Addr} : ∀ {M M' : Led}, PMv pa M M' → Cg c pa M M'
  | [], [], _ => trivial
  | _ :: _, _ :: _, ⟨a, b, r⟩ => ⟨a, fun _ h => b h, Cg.ofP r⟩
  | [], _ :: _, h => h.elim
  | _ :: _, [], h => h.elim
theorem Cg.tr {c : Ctx} {pa : Addr} : ∀ {M M' M'' : Led}, Cg c pa M M' → Cg c pa M' M'' → Cg c pa M M''
  | [], [], [], _, _ => trivial
  | _ :: _, _ :: _, _ :: _, ⟨a, b, r⟩, ⟨a', b', r'⟩ => ⟨a.trans a', fun h k => (b h k).trans (b' (fun x => a ▸ h x) (a ▸ k)), Cg.tr r r'⟩
  | [], _ :: _, _, h, _ => h.elim
  | _ :: _, [], _, h, _ => h.elim
  | [], [], _ :: _, _, h => h.elim
  | _ :: _, _ :: _, [], _, h => h.elim
theorem Cg.split {c : Ctx} {pa : Addr} : ∀ {a M X : Led}, Cg c pa (a ++ M) X → (∀ p ∈ a, ∀ x, c.cl.lookup x ≠ some p.1) → (∀ p ∈ a, p.1 ≠ pa) → ∃ M', X = a ++ M' ∧ Cg c pa M M'
  | [], _, X, h, _, _ => ⟨X, rfl, h⟩
  | p :: a, M, q :: X, ⟨e, b, r⟩, k, k2 => by
    obtain ⟨M', e', r'⟩ := Cg.split r (fun p hp => k p (.tail _ hp)) (fun p hp => k2 p (.tail _ hp))
    have := b (k p (.head _)) (k2 p (.head _))
    subst this
    exact ⟨M', by rw [e']; rfl, r'⟩
  | _ :: _, _, [], h, _, _ => h.elim
theorem Cg.addr {c : Ctx} {pa : Addr} : ∀ {M M' : Led}, Cg c pa M M' → M.map (·.1) = M'.map (·.1)
  | [], [], _ => rfl
  | _ :: _, _ :: _, ⟨a, _, r⟩ => by rw [List.map_cons, List.map_cons, a, Cg.addr r]
  | [], _ :: _, h => h.elim
  | _ :: _, [], h => h.elim
theorem Mv.at {c : Ctx} {q : Addr} {o : Obj} (hq : ∀ x, c.cl.lookup x ≠ some q) : ∀ {own rest M' : Led}, Mv c (own ++ (q, o) :: rest) M' → ∃ own' rest', M' = own' ++ (q, o) :: rest' ∧ own.map (·.1) = own'.map (·.1) ∧ rest.map (·.1) = rest'.map (·.1)
  | [], rest, y :: M', ⟨_, b, r⟩ => ⟨[], M', by rw [← b hq]; rfl, rfl, r.addr⟩
  | p :: own, rest, y :: M', ⟨a, _, r⟩ => by
    obtain ⟨own', rest', e, e1, e2⟩ := Mv.at hq (own := own) r
    exact ⟨y :: own', rest', by rw [e]; rfl, by rw [List.map_cons, List.map_cons, a, e1], e2⟩
  | [], _, [], h => h.elim
  | _ :: _, _, [], h => h.elim
theorem Pen.notcell {c : Ctx} {m : Str → Option Value} {ρ : List (Str × AV)} {M news : Led} {h : Heap} {pa : Addr} {i : Int} (pn : Pen M news pa i) (st : St c m M news h) (lo : Loc w kd ρ c m M news) : ∀ x, c.cl.lookup x ≠ some pa := fun x e => by
  obtain ⟨own, o, rest, v₀, er, hd, _⟩ := lo.nd x pa e
  exact pn.ncell st (q := pa) (o := o) (by rw [er]; exact List.mem_append_right _ (.head _)) hd rfl
theorem Pen.mv {c : Ctx} {M M' news : Led} {pa : Addr} {i : Int} (pn : Pen M news pa i) (hc : ∀ x, c.cl.lookup x ≠ some pa) (mv : Mv c M M') : Pen M' news pa i := by
  obtain ⟨own, rest, q, t, j, u, n, ys, cnt, ns, e, hj, h1, h2, hq, hI, hl⟩ := pn.ex
  rw [e] at mv
  obtain ⟨own', rest', e', a1, a2⟩ := mv.at hc
  exact ⟨own', rest', q, t, j, u, n, ys, cnt, ns, e', hj, addr_ne a1 h1, addr_ne a2 h2, hq, hI, hl⟩
/-- statements that draw at most n times -/
noncomputable def ExP (w : World) (d : Nat) (kd : Str → Option NameKind) (ρ : List (Str × AV)) (pa : Addr) (n : Nat) (sts : List Stmt) (N : List (Str × AV) → Prop) (R : AV → Prop) : Prop :=
  ∀ (c : Ctx) (m : Str → Option Value) (M news : Led) (s : Shared) (Q : Flow → Shared → Prop) (E : Value → Shared → Prop) (i : Int), c.Ok w d → PassesOwn (model Pr w) c.A c.env E → St c m M news s.heap → Loc w kd ρ c m M news → Pen M news pa i → 0 ≤ i → i + n ≤ 1000 →
    (∀ ρ' m' M' h' tk' news' i', St c m' M' news' h' → Loc w kd ρ' c m' M' news' → Cg c pa M M' → Pen M' news' pa i' → i ≤ i' → i' ≤ i + n → Sub news news' → N ρ' → Q .next { s with heap := h', toks := tk' }) →
    (∀ v a m' M' h' tk' news', St c m' M' news' h' → Sub news news' → R a → Is w news' v a → Q (.ret v) { s with heap := h', toks := tk' }) → wpAny (model Pr w) c.A (execs sts c.env) Q E s
theorem ExP.draws {ρ : List (Str × AV)} {elt : PySem.Expr} {x y z rg cn : Str} {px pz pos sp rp cp gp : Pos} {sc : Scope} {pa : Addr} {n kk : Nat} {P : AV → Prop} {rest : List Stmt} {N : List (Str × AV) → Prop} {R : AV → Prop} (hkk : kk ≤ 1000)
    (hrg : Ev w d kd ρ (.Name rg rp) (· = .val (.type "range"))) (hcn : Ev w d kd ρ (.Name cn cp) (· = .int (kk : Int))) (hsc : okSc sc x = true) (hy : Lk ρ y (.val (.ref pa))) (hky : kd y = some .cell) (hry : relK kd sc y = some .cell)
    (hb : ∀ j : Int, EvP w d (relK kd sc) [(x, .int j), (y, .val (.ref pa))] pa n elt P) (hl : kd z = some .local)
    (hrest : ∀ l, l.length = kk → (∀ a ∈ l, P a) → Ex w d kd ((z, .lst l) :: ρ) rest N R)
    (hcl : ∀ (env : Env) (q : Addr), env.cells.lookup y = some q → closureFor sc env = pure [(y, q)])
    (k1 : ∀ env, starEach [.Name cn cp] env = (false, eval (.Name cn cp) env) :: starEach [] env := by intro _; with_unfolding_all rfl) (k2 : ∀ env, ((backTo gp (starEach [] env)).any fun x => x.1) = false := by intro _; with_unfolding_all rfl)
    (hs : ∀ env v, foldedSetIterable (.Call (.Name rg rp) [.Name cn cp] [] gp) env v = pure v := by intro _ _; with_unfolding_all rfl)
    (hsw : (pz.line == pos.line && !(sc.names.any fun y => y.1 == z && (y.2 == .local || y.2 == .cell))) = true := by kernel_rfl) :
    ExP w d kd ρ pa (n * kk) (.Assign [.Name z pz] (.ListComp elt [⟨.Name x px, .Call (.Name rg rp) [.Name cn cp] [] gp, [], 0⟩] sc pos) sp :: rest) N R := fun c m M news s Q E i ok ow st lo pn i0 i1 q r =>
  wpAny_execs_cons (Ex1.draws ok ow st lo pn i0 (by rw [Int.natCast_mul] at i1; exact i1) hkk hrg hcn hsc hy hky hry hb hl (fun l m' M' h' tk' n' i' hll hP st' lo' pm pn' j0 j1 sb =>
    hrest l hll hP c m' M' n' _ Q E ok ow st' lo' (fun ρ2 m2 M2 h2 tk2 n2 st2 lo2 mv2 sb2 hN => q ρ2 m2 M2 h2 tk2 n2 i' st2 lo2 ((Cg.ofP pm).tr (.ofMv mv2)) ((pn'.mv (pn'.notcell st' lo') mv2).up sb2) j0 (by rw [Int.natCast_mul]; exact j1) (sb.tr sb2) hN)
      fun v a m2 M2 h2 tk2 n2 st2 sb2 hR is => r v a m2 M2 h2 tk2 n2 st2 (sb.tr sb2) hR is) hcl k1 k2 hs hsw)
noncomputable def ForsP (w : World) (d : Nat) (kd : Str → Option NameKind) (pa : Addr) (body : List Stmt) (R : AV → Prop) : List (Nat × List (Str × AV)) → List (Str × AV) → (List (Str × AV) → Prop) → Prop
  | [], ρ, N => N ρ
  | (n, bs) :: r, ρ, N => ExP w d kd (bs ++ ρ) pa n body (fun ρ' => ForsP w d kd pa body R r ρ' N) R
noncomputable def totP : List (Nat × List (Str × AV)) → Nat
  | [] => 0
  | p :: r => p.1 + totP r
theorem items_pen {c : Ctx} {E : Value → Shared → Prop} {Q : Flow → Shared → Prop} {s : Shared} {target : PySem.Expr} {body : List Stmt} {ws : List (Addr × String)} {keep : Led} {N : List (Str × AV) → Prop} {R : AV → Prop} {n₀ : Led} {pa : Addr} (ok : c.Ok w d) (ow : PassesOwn (model Pr w) c.A c.env E)
    (q : ∀ ρ' m' M' h' tk' news' i', St c m' M' news' h' → Loc w kd ρ' c m' M' news' → Pen M' news' pa i' → 0 ≤ i' → i' ≤ 900 → Sub n₀ news' → N ρ' → Q .next { s with heap := h', toks := tk' })
    (r : ∀ v a m' M' h' tk' news', St c m' M' news' h' → Sub n₀ news' → R a → Is w news' v a → Q (.ret v) { s with heap := h', toks := tk' }) :
    ∀ (xs : List Itm) (bss : List (Nat × List (Str × AV))) (ρ : List (Str × AV)) (m : Str → Option Value) (M news : Led) (i : Int), ItmsOK w kd target news xs (bss.map (·.2)) → ForsP w d kd pa body R bss ρ N → Sub keep news → Loc w kd ρ c m M news → Ap M news → (∀ p ∈ news, ∀ z ∈ ws, p.1 ≠ z.1) → (∀ p ∈ M, ∀ z ∈ ws, p.1 ≠ z.1) → Sub n₀ news → Pen M news pa i → 0 ≤ i → i + totP bss ≤ 900 →
      ItemsRest Pr w c.A E c.h₀ c.env target body Q s ws keep xs m (M ++ news)
  | [], [], ρ, m, M, news, i, _, hf, hk, lo, ap, w1, w2, sb, pn, i0, i1 => fun h tk F Nn => q ρ m M h tk news i ⟨F, Nn, ap⟩ lo pn i0 (by have : ((totP [] : Nat) : Int) = 0 := rfl; omega) sb hf
  | [], _ :: _, ρ, m, M, news, i, hx, hf, hk, lo, ap, w1, w2, sb, pn, i0, i1 => by cases hx
  | _ :: _, [], ρ, m, M, news, i, hx, hf, hk, lo, ap, w1, w2, sb, pn, i0, i1 => by cases hx
  | it :: xs, (nn, bs) :: bss, ρ, m, M, news, i, .cons hi hx, hf, hk, lo, ap, w1, w2, sb, pn, i0, i1 => fun v h tk hv F => allObj_of fun its hits Nn => by
    have ia := objs_addr hits
    have n1 : ∀ p ∈ news, ∀ y ∈ its, p.1 ≠ y.1 := fun p hp y hy e => by obtain ⟨z, hz, ez⟩ := ia y hy; exact w1 p hp z hz (e.trans ez)
    have n2 : ∀ p ∈ M, ∀ y ∈ its, p.1 ≠ y.1 := fun p hp y hy e => by obtain ⟨z, hz, ez⟩ := ia y hy; exact w2 p hp z hz (e.trans ez)
    have st : St c m (its ++ M) news h := ⟨F, by rw [List.append_assoc]; exact Nn, fun p hp y hy => by
      rcases List.mem_append.mp hy with hy | hy
      · exact n1 p hp y hy
      · exact ap p hp y hy⟩
    obtain ⟨op, hop, _⟩ := pn.in'
    have penM : ∀ y ∈ its, y.1 ≠ pa := fun y hy e => n2 _ hop y hy e.symm
    have cellM : ∀ x b, c.cl.lookup x = some b → ∀ y ∈ its, y.1 ≠ b := fun x b hb y hy e => by
      obtain ⟨own, o, rest, v₀, er, _⟩ := lo.nd x b hb
      exact n2 (b, o) (by rw [er]; exact List.mem_append_right _ (.head _)) y hy e.symm
    have lo' : Loc w kd ρ c m (its ++ M) news := ⟨lo.kof, fun x a hl => by
      rcases lo.nm x a hl with l | ⟨k, b, o, v, e1, e2, e3, i⟩
      · exact .inl l
      · exact .inr ⟨k, b, o, v, e1, List.mem_append_right _ e2, e3, i⟩, lo.ap, fun x b hb => by
      obtain ⟨own, o, rest, v₀, er, hd, o1, o2⟩ := lo.nd x b hb
      refine ⟨its ++ own, o, rest, v₀, by rw [er, List.append_assoc], hd, fun p hp => ?_, o2⟩
      rcases List.mem_append.mp hp with hp | hp
      · exact cellM x b hb p hp
      · exact o1 p hp, lo.hc⟩
    have tot : ((totP ((nn, bs) :: bss) : Nat) : Int) = nn + (totP bss : Nat) := by show ((nn + totP bss : Nat) : Int) = _; omega
    refine hi c m (its ++ M) news _ ρ v _ _ ok.hk Sub.rfl' st lo' hv fun m1 h1 tk1 st1 lo1 => ?_
    refine hf c m1 (its ++ M) news _ _ _ i ok ow st1 lo1 (pn.pre penM) i0 (by omega) (fun ρ' m' M' h' tk' news' i' st2 lo2 mv2 pn2 j0 j1 sb2 hN => ?_) (fun v a m' M' h' tk' news' st2 sb2 hR i => r v a m' M' h' tk' news' st2 (sb.tr sb2) hR i)
    obtain ⟨M2, rfl, mv3⟩ := Cg.split mv2 (fun p hp x e => cellM x p.1 e p hp rfl) penM
    have addr : ∀ p ∈ M2, ∃ y ∈ M, y.1 = p.1 := fun p hp => by
      have : p.1 ∈ M.map (·.1) := by rw [mv3.addr]; exact List.mem_map_of_mem hp
      obtain ⟨y, hy, e⟩ := List.mem_map.mp this; exact ⟨y, hy, e⟩
    have n3 : ∀ p ∈ news', ∀ z ∈ ws, p.1 ≠ z.1 := fun p hp z hz e => by
      have : ∀ {ws : List (Addr × String)} {its : Led}, Objs ws its → z ∈ ws → ∃ y ∈ its, y.1 = z.1 := by
        intro ws
        induction ws with
        | nil => intro its _ h; cases h
        | cons u ws ih =>
          intro its ho h
          match its, ho with
          | y :: its, ho =>
            rcases List.mem_cons.mp h with rfl | h
            · exact ⟨y, .head _, ho.1.1⟩
            · obtain ⟨y', hy', e'⟩ := ih ho.2 h
              exact ⟨y', .tail _ hy', e'⟩
      obtain ⟨y, hy, ey⟩ := this hits hz
      exact st2.A p hp y (List.mem_append_left _ hy) (e.trans ey.symm)
    have n4 : ∀ p ∈ M2, ∀ z ∈ ws, p.1 ≠ z.1 := fun p hp z hz e => by obtain ⟨y, hy, ey⟩ := addr p hp; exact w2 y hy z hz (ey.trans e)
    refine ⟨h', tk', m', M2 ++ news', rfl, st2.F, by have := st2.N; rw [List.append_assoc] at this; exact this, fun p hp y hy => ?_, subL_of fun p hp => List.mem_append_right _ (sb2 p (hk p hp)), ?_⟩
    · obtain ⟨z, hz, ez⟩ := ia y hy
      rw [ez]
      rcases List.mem_append.mp hp with hp | hp
      · exact n4 p hp z hz
      · exact n3 p hp z hz
    · refine items_pen ok ow q r xs bss ρ' m' M2 news' i' (hx.up sb2) hN (hk.tr sb2) ⟨lo2.kof, fun x a hl => ?_, lo2.ap, fun x b hb => ?_, lo2.hc⟩ (fun p hp y hy => st2.A p hp y (List.mem_append_right _ hy)) n3 n4 (sb.tr sb2) (pn2.post penM) (by omega) (by omega)
      · rcases lo2.nm x a hl with l | ⟨k, b, o, v, e1, e2, e3, i⟩
        · exact .inl l
        · refine .inr ⟨k, b, o, v, e1, ?_, e3, i⟩
          rcases List.mem_append.mp e2 with e2 | e2
          · exact absurd rfl (cellM x b e1 _ e2)
          · exact e2
      · obtain ⟨own, o, rest, v₀, er, hd, o1, o2⟩ := lo2.nd x b hb
        obtain ⟨own2, er2, o3⟩ := nd_tail er (cellM x b hb) o1
        exact ⟨own2, o, rest, v₀, er2, hd, o3, o2⟩
/-- for x, y in zip(a list, a list), the turns drawing -/
theorem forZ_pen {c : Ctx} {m : Str → Option Value} {M news : Led} {s : Shared} {Q : Flow → Shared → Prop} {E : Value → Shared → Prop} {ρ : List (Str × AV)} {x y z : Str} {px py pz cp pos : Pos} {k : Nat} {tp : Pos} {a b : PySem.Expr} {body : List Stmt} {l r : List AV} {bss : List (Nat × List (Str × AV))} {N : List (Str × AV) → Prop} {R : AV → Prop} {pa : Addr} {i : Int} (ok : c.Ok w d) (ow : PassesOwn (model Pr w) c.A c.env E) (st : St c m M news s.heap) (lo : Loc w kd ρ c m M news) (pn : Pen M news pa i) (i0 : 0 ≤ i) (i1 : i + totP bss ≤ 900)
    (hz : Ev w d kd ρ (.Name z pz) (· = .val (.type "zip"))) (ha : Evs w d kd ρ [a, b] (· = [.lst l, .lst r])) (hx : kd x = some .local) (hy : kd y = some .local) (hbs : bss.map (·.2) = (l.zip r).map fun p => [(y, p.2), (x, p.1)]) (hf : ForsP w d kd pa body R bss ρ N)
    (q : ∀ ρ' m' M' h' tk' news' i', St c m' M' news' h' → Loc w kd ρ' c m' M' news' → Pen M' news' pa i' → 0 ≤ i' → i' ≤ 900 → Sub news news' → N ρ' → Q .next { s with heap := h', toks := tk' })
    (rt : ∀ v a m' M' h' tk' news', St c m' M' news' h' → Sub news news' → R a → Is w news' v a → Q (.ret v) { s with heap := h', toks := tk' })
    (k1 : ∀ env, starEach [a, b] env = (false, eval a env) :: starEach [b] env := by intro _; with_unfolding_all rfl) (k2 : ∀ env, ((backTo cp (starEach [b] env)).any fun x => x.1) = false := by intro _; with_unfolding_all rfl)
    (hs : ∀ env v, foldedSetIterable (.Call (.Name z pz) [a, b] [] cp) env v = pure v := by intro _ _; with_unfolding_all rfl) : wpAny (model Pr w) c.A (exec (.For (.Tuple [.Name x px, .Name y py] k tp) (.Call (.Name z pz) [a, b] [] cp) body [] pos) c.env) Q E s := by
  refine For_turns (env := c.env) (h₀ := c.h₀) st.F (Call_ (hz c c.env m M news s _ E ok st (lo.sees ok.hk) fun v a' h' tk' n' st' sb p i => ?_)) (hs _) ow
  subst p
  cases i
  refine PySem.Pv.callWith_type1 (ha cp c c.env m M n' _ _ E ok st' ((lo.up sb).sees ok.hk) fun vs l' h2 tk2 n2 st2 sb2 p2 al => ?_) (k1 _) (k2 _)
  subst p2
  obtain ⟨u, v, rfl, i1', i2⟩ := al.inv2
  cases i1' with | lst hm1 hs1 =>
  cases i2 with | lst hm2 hs2 =>
  refine ktu_zip (env := c.env) (h₀ := c.h₀) rfl st2.F st2.N (st2.mem hm1) rfl rfl (st2.mem hm2) rfl rfl fun I lt => ?_
  refine items_pen (s := { s with heap := h2, toks := tk2 }) (N := N) (R := R) (n₀ := n2) (pa := pa) ok ow (fun ρ2 m2 M2 h2 tk2 n3 i' st2 lo2 pn2 j0 j1 sb3 hN => q ρ2 m2 M2 h2 tk2 n3 i' st2 lo2 pn2 j0 j1 ((sb.tr sb2).tr sb3) hN) (fun v a m2 M2 h2 tk2 n3 st2 sb3 hR i => rt v a m2 M2 h2 tk2 n3 st2 ((sb.tr sb2).tr sb3) hR i) _ bss ρ m M n2 _ (hbs ▸ itms_zip hx hy hs1 hs2) hf ?_ (lo.up (sb.tr sb2)) st2.A ?_ ?_ Sub.rfl' (pn.up (sb.tr sb2)) i0 i1
  · intro p hp
    rcases List.mem_cons.mp hp with rfl | hp
    · exact hm1
    · rw [List.mem_singleton.mp hp]; exact hm2
  · intro p hp z hz
    have := lt p (List.mem_append_right _ hp)
    simp only [List.mem_cons, List.not_mem_nil, or_false] at hz
    rcases hz with rfl | rfl | rfl | rfl | rfl <;> first | exact Nat.ne_of_lt this | exact Nat.ne_of_lt (Nat.lt_of_lt_of_le this (Nat.le_add_right _ _))
  · intro p hp z hz
    have := lt p (List.mem_append_left _ hp)
    simp only [List.mem_cons, List.not_mem_nil, or_false] at hz
    rcases hz with rfl | rfl | rfl | rfl | rfl <;> first | exact Nat.ne_of_lt this | exact Nat.ne_of_lt (Nat.lt_of_lt_of_le this (Nat.le_add_right _ _))
end
/- the pen made -/
section
variable {w : World} {d : Nat} {kd : Str → Option NameKind} {ρ : List (Str × AV)}
theorem store_cell {c : Ctx} {m : Str → Option Value} {M news : Led} {s : Shared} {x : Str} {v : Value} {a : AV} {Q : Unit → Shared → Prop} {E : Value → Shared → Prop} (hk : c.cs.kind = .function) (st : St c m M news s.heap) (lo : Loc w kd ρ c m M news) (hc : kd x = some .cell) (i : Is w news v a)
    (q : ∀ m' M' h' tk', St c m' M' news h' → Loc w kd ((x, a) :: ρ) c m' M' news → Mv c M M' → Q () { s with heap := h', toks := tk' }) : wpAny (model Pr w) c.A (storeName c.env x v) Q E s := by
  obtain ⟨b, hb⟩ := Option.isSome_iff_exists.mp (lo.hc x hc)
  obtain ⟨own, o, rest, v₀, rfl, hd, o1, o2⟩ := lo.nd x b hb
  have hm := st.N (b, o) (List.mem_append_left _ (List.mem_append_right _ (.head _)))
  refine wpAny_storeName_cell hk (by rw [lo.kof]; exact hc) hb ⟨o, hm.1, hd⟩ fun h2 ⟨o', ho', hd'⟩ hsb => ?_
  have o3 : ∀ p ∈ news, p.1 ≠ b := fun p hp => st.A p hp _ (List.mem_append_right _ (.head _))
  have st2 : St c m (own ++ (b, o') :: rest) news h2 := ⟨⟨st.F.ns.sameBut hsb (Ne.symm hm.2.1), fun z oz e => (hsb.2 z (fun q => by rw [q, hm.2.2] at e; cases e)).trans (st.F.keep z oz e), st.F.above⟩, fun p hp => by
      rcases List.mem_append.mp hp with hp | hp
      · rcases List.mem_append.mp hp with hp | hp
        · have := st.N p (List.mem_append_left _ (List.mem_append_left _ hp)); exact ⟨(hsb.2 _ (o1 p hp)).trans this.1, this.2⟩
        · rcases List.mem_cons.mp hp with rfl | hp
          · exact ⟨ho', hm.2⟩
          · have := st.N p (List.mem_append_left _ (List.mem_append_right _ (.tail _ hp))); exact ⟨(hsb.2 _ (o2 p hp)).trans this.1, this.2⟩
      · have := st.N p (List.mem_append_right _ hp); exact ⟨(hsb.2 _ (o3 p hp)).trans this.1, this.2⟩, fun p hp y hy => by
      rcases List.mem_append.mp hy with hy | hy
      · exact st.A p hp y (List.mem_append_left _ hy)
      · rcases List.mem_cons.mp hy with rfl | hy
        · exact o3 p hp
        · exact st.A p hp y (List.mem_append_right _ (.tail _ hy))⟩
  refine q _ _ _ _ st2 ⟨lo.kof, fun y z hy => ?_, lo.ap, fun y b' hy => ?_, lo.hc⟩ (Mv.set hb)
  · cases hy with
    | hd => exact .inr ⟨hc, b, o', v, hb, List.mem_append_right _ (.head _), hd', i⟩
    | tl hn hy =>
      rcases lo.nm y z hy with l | ⟨k1, b1, oz, vz, e1, e2, e3, iz⟩
      · exact .inl l
      · refine .inr ⟨k1, b1, oz, vz, e1, ?_, e3, iz⟩
        have hne : b1 ≠ b := fun e => by have := lo.ap y x b (e ▸ e1) hb; rw [this] at hn; simp at hn
        rcases List.mem_append.mp e2 with e2 | e2
        · exact List.mem_append_left _ e2
        · rcases List.mem_cons.mp e2 with e2 | e2
          · exact absurd (congrArg Prod.fst e2) hne
          · exact List.mem_append_right _ (.tail _ e2)
  · by_cases hyx : y = x
    · subst hyx
      rw [hb] at hy; cases hy
      exact ⟨own, o', rest, some v, rfl, hd', o1, o2⟩
    · have hne : b' ≠ b := fun e => hyx (lo.ap y x b (e ▸ hy) hb)
      obtain ⟨own', oy, rest', w₀, er, hdy, p1, p2⟩ := lo.nd y b' hy
      -- the cell of another name stays
      have hm2 : (b', oy) ∈ own ++ (b, o) :: rest := by rw [er]; exact List.mem_append_right _ (.head _)
      have hm3 : (b', oy) ∈ own ++ (b, o') :: rest := by
        rcases List.mem_append.mp hm2 with e2 | e2
        · exact List.mem_append_left _ e2
        · rcases List.mem_cons.mp e2 with e2 | e2
          · exact absurd (congrArg Prod.fst e2) hne
          · exact List.mem_append_right _ (.tail _ e2)
      have cnt : ∀ (M : Led) (a : Addr), (∃ own o rest, M = own ++ (a, o) :: rest ∧ (∀ p ∈ own, p.1 ≠ a) ∧ ∀ p ∈ rest, p.1 ≠ a) ↔ (M.map (·.1)).count a = 1 := by
        intro M a
        constructor
        · rintro ⟨own, o, rest, rfl, q1, q2⟩
          rw [List.map_append, List.map_cons, List.count_append, List.count_cons_self, List.count_eq_zero.mpr (fun h => by obtain ⟨p, hp, e⟩ := List.mem_map.mp h; exact q1 p hp e), List.count_eq_zero.mpr (fun h => by obtain ⟨p, hp, e⟩ := List.mem_map.mp h; exact q2 p hp e)]
        · intro h
          induction M with
          | nil => cases h
          | cons p r ih =>
            rw [List.map_cons] at h
            by_cases e : p.1 = a
            · subst e
              rw [List.count_cons_self] at h
              have : (r.map (·.1)).count p.1 = 0 := by omega
              exact ⟨[], p.2, r, rfl, (fun q hq => by cases hq), fun q hq e => List.count_eq_zero.mp this (e ▸ List.mem_map_of_mem hq)⟩
            · rw [List.count_cons_of_ne (by simpa using e)] at h
              obtain ⟨own, o, rest, er, q1, q2⟩ := ih h
              exact ⟨p :: own, o, rest, by rw [er]; rfl, (fun q hq => by
                rcases List.mem_cons.mp hq with rfl | hq
                · exact e
                · exact q1 q hq), q2⟩
      have c1 := (cnt (own ++ (b, o) :: rest) b').mp ⟨own', oy, rest', er, p1, p2⟩
      have c2 : ((own ++ (b, o') :: rest).map (·.1)).count b' = 1 := by
        rw [List.map_append, List.map_cons] at c1 ⊢; exact c1
      obtain ⟨own2, o2', rest2, er2, q1, q2⟩ := (cnt _ b').mpr c2
      refine ⟨own2, o2', rest2, w₀, er2, ?_, q1, q2⟩
      have : (b', oy) = (b', o2') := by
        rw [er2] at hm3
        rcases List.mem_append.mp hm3 with h | h
        · exact absurd rfl (q1 _ h)
        · rcases List.mem_cons.mp h with h | h
          · exact h
          · exact absurd rfl (q2 _ h)
      cases this; exact hdy
end
section
variable {w : World} {d : Nat} {kd : Str → Option NameKind} {ρ : List (Str × AV)}
open PyProof.Rows.LCg PyProof.Rows.LCt
theorem Do.int {i : Int} : Do w d [.int i] (fun vs => PySem.call (.type "int") vs) (· = .int i) := by
  intro c m M news s vs Q E ok st al q
  obtain ⟨u, rfl, j⟩ := al.inv1
  cases j
  exact call_int_int (q _ _ _ _ news st Sub.rfl' rfl (.int _ _))
/-- a list of the ground, sliced -/
theorem slice_base {c : Ctx} {env : Env} {m : Str → Option Value} {M news : Led} {s : Shared} {Q E : Value → Shared → Prop} {x : Str} {xp pos sp : Pos} {lo hi : Option PySem.Expr} {i j : Option Int} {b : Addr} {vs : List Value} {l : List AV} (ok : c.Ok w d) (st : St c m M news s.heap) (se : Sees w kd ρ env c m M news) (hL : c.h₀.IsList b vs.toArray) (al : ∀ led, Alls w led vs l)
    (ho : Ev w d kd ρ (.Name x xp) (· = .val (.ref b))) (hl : Pt w d kd ρ lo i) (hh : Pt w d kd ρ hi j) (hz : l.length ≤ 1000)
    (q : ∀ D h' tk' n', St c m M n' h' → Sub news n' → (D, listOf (kms_pick vs i j).toArray 0) ∈ n' → Alls w n' (kms_pick vs i j) (pickA l i j) → Q (.ref D) { s with heap := h', toks := tk' }) :
    wpAny (model Pr w) c.A (eval (.Subscript (.Name x xp) (.Slice lo hi none sp) pos) env) Q E s :=
  Subscript_ (ho c env m M news s _ E ok st se fun v a' h' tk' n' st' sb p e => by
    subst p
    cases e
    refine wpAny_Slice (hl c env m M n' _ _ E ok st' (se.up sb) fun u1 h1 tk1 n1 st1 sb1 p1 => hh c env m M n1 _ _ E ok st1 (se.up (sb.tr sb1)) fun u2 h2 tk2 n2 st2 sb2 p2 => evalPart_none_step ?_)
    have hlen := (al []).length
    obtain ⟨ob, ho, hr⟩ := hL
    refine kms_slice_lit st2.F st2.N ⟨ob, st2.F.keep _ _ ho, hr⟩ p1 p2 rfl (fun D h3 F3 N3 lt => ?_) rfl (fun _ => rfl) (by rw [List.size_toArray, hlen, sizeLine_eq]; omega)
    refine q _ _ _ _ (st2.push F3 N3 lt) (((sb.tr sb1).tr sb2).tr Sub.cons') (.head _) ?_
    unfold pickA kms_pick
    rw [← hlen, List.toList_toArray]
    exact pick_alls (al _) _ _)
/-- the pen's place taken out of what is new -/
theorem pen_in {c : Ctx} {m : Str → Option Value} {M news : Led} {h : Heap} {r q : Addr} {t u : Tok} {n cnt : Nat} {ys : List Value} {ns : List Int} (st : St c m M news h) (hr : (r, penO q 0 t 0 u n) ∈ news) (hq : (q, listOf ys.toArray cnt) ∈ news) (hI : IntsAre ys ns) (hl : ns.length ≤ 63) :
    ∃ n2, Sub n2 news ∧ St c m ((r, penO q 0 t 0 u n) :: M) n2 h ∧ Pen ((r, penO q 0 t 0 u n) :: M) n2 r 0 := by
  have hne : q ≠ r := fun e => by
    subst e
    have h1 := (st.N _ (st.mem hr)).1
    have h2 := (st.N _ (st.mem hq)).1
    have := Option.some.inj (h1.symm.trans h2)
    injection this with _ _ h3 _
    injection h3 with h4 _
    have h5 := congrArg Array.toList h4
    simp only [List.toList_toArray] at h5
    subst h5
    cases hI
  refine ⟨news.filter fun p => p.1 != r, fun p hp => (List.mem_filter.mp hp).1, ⟨st.F, fun p hp => ?_, fun p hp y hy => ?_⟩, ⟨[], M, q, t, 0, u, n, ys, cnt, ns, rfl, Int.le_refl _, (fun p hp => nomatch hp), fun p hp => (st.A _ hr p hp).symm, List.mem_filter.mpr ⟨hq, by simpa using hne⟩, hI, hl⟩⟩
  · rcases List.mem_append.mp hp with hp | hp
    · rcases List.mem_cons.mp hp with rfl | hp
      · exact st.N _ (st.mem hr)
      · exact st.N _ (List.mem_append_left _ hp)
    · exact st.N _ (st.mem (List.mem_filter.mp hp).1)
  · obtain ⟨hp1, hp2⟩ := List.mem_filter.mp hp
    rcases List.mem_cons.mp hy with rfl | hy
    · simpa using hp2
    · exact st.A p hp1 y hy
end
section
/- plain arithmetic -/
theorem px0 (i : Int) : i * 10 ^ (6 - 0 : Int).toNat = i * 1000000 := rfl
theorem px1 (i : Int) : i * 10 ^ (6 - 1 : Int).toNat = i * 100000 := rfl
theorem px2 (i : Int) : i * 10 ^ (6 - 2 : Int).toNat = i * 10000 := rfl
theorem px4 (i : Int) : i * 10 ^ (6 - 4 : Int).toNat = i * 100 := rfl
theorem bits10 {n : Int} (h : n ≤ 6) : Builtin.Int.intBits (10 ^ n.toNat) ≤ 64 := by
  refine intBits_le_64 ?_ ?_
  · have : (0 : Int) < 10 ^ n.toNat := Int.pow_pos (by decide)
    omega
  · have : n.toNat = 0 ∨ n.toNat = 1 ∨ n.toNat = 2 ∨ n.toNat = 3 ∨ n.toNat = 4 ∨ n.toNat = 5 ∨ n.toNat = 6 := by omega
    rcases this with q | q | q | q | q | q | q <;> rw [q] <;> decide

/-- a share: 0 to 1, four places -/
structure Ok4 (x : Int) : Prop where
  lo : 0 ≤ x
  hi : x ≤ 1000000
  div : x % 100 = 0
theorem Ok4.clp {x : Int} (h : x % 100 = 0) : Ok4 (clp x) := ⟨clp_lo x, clp_hi x, by unfold Mine.clp; omega⟩
theorem prod30 {x : Int} (h : Ok4 x) : (x / 100 * 30) * 1000000 = x * (3 * 100000) := by have := h.div; omega
theorem prod59 {x : Int} (h : Ok4 x) : (x / 100 * 59) * 1000000 = x * (59 * 10000) := by have := h.div; omega
theorem prod11 {x : Int} (h : Ok4 x) : (x / 100 * 11) * 1000000 = x * (11 * 10000) := by have := h.div; omega
theorem prod255 (x : Int) : (x * 255) * 1000000 = x * (255 * 1000000) := by omega
theorem p6_30 : P6 (3 * 100000) = 1 := by decide
theorem p6_59 : P6 (59 * 10000) = 2 := by decide
theorem p6_11 : P6 (11 * 10000) = 2 := by decide
theorem p6_255 : P6 (255 * 1000000) = 0 := by decide
theorem pl30 {x : Int} (h : Ok4 x) : P6 x + P6 (3 * 100000) ≤ 6 := by have := P6_four h.div; rw [p6_30]; omega
theorem pl59 {x : Int} (h : Ok4 x) : P6 x + P6 (59 * 10000) ≤ 6 := by have := P6_four h.div; rw [p6_59]; omega
theorem pl11 {x : Int} (h : Ok4 x) : P6 x + P6 (11 * 10000) ≤ 6 := by have := P6_four h.div; rw [p6_11]; omega
theorem pl255 (x : Int) : P6 x + P6 (255 * 1000000) ≤ 6 := by have := P6_hi x; rw [p6_255]; omega
theorem Ok4.bd {x : Int} (h : Ok4 x) : -(2 ^ 60) < x ∧ x < 2 ^ 60 := by have := h.lo; have := h.hi; omega
theorem clp_bd (x : Int) : -(2 ^ 60) < clp x ∧ clp x < 2 ^ 60 := by have := clp_lo x; have := clp_hi x; omega
theorem pow10_ne (n : Nat) : (10 : Int) ^ n ≠ 0 := Int.ne_of_gt (pow10_pos n)
theorem pow10_le {p : Int} (h : p ≤ 6) : (10 : Int) ^ p.toNat ≤ 1000000 := by
  have : p.toNat = 0 ∨ p.toNat = 1 ∨ p.toNat = 2 ∨ p.toNat = 3 ∨ p.toNat = 4 ∨ p.toNat = 5 ∨ p.toNat = 6 := by omega
  rcases this with q | q | q | q | q | q | q <;> rw [q] <;> decide
theorem pow10_small {p : Int} (h : p ≤ 6) : ((10 : Int) ^ p.toNat).natAbs < 1073741824 := by
  have := pow10_le h; have := pow10_pos p.toNat; omega
theorem bits_sign (i : Int) : Builtin.Int.intBits i.sign ≤ 64 := intBits_le_64 (by have := Int.sign_trichotomy i; omega) (by have := Int.sign_trichotomy i; omega)
theorem rq_eq {t b : Int} (ht : 0 ≤ t) (hb : 0 < b) : ((2 * (if t < 0 then -t else t)) + (if b < 0 then -b else b)).fdiv (2 * (if b < 0 then -b else b)) * t.sign * b.sign = (2 * t + b) / (2 * b) := by
  rw [if_neg (by omega), if_neg (by omega), Int.fdiv_eq_ediv_of_nonneg _ (by omega), Int.sign_eq_one_of_pos hb, Int.mul_one]
  by_cases h : t = 0
  · subst h
    rw [Int.sign_zero, Int.mul_zero, Int.mul_zero, Int.zero_add, Int.ediv_eq_zero_of_lt (by omega) (by omega)]
  · rw [Int.sign_eq_one_of_pos (by omega), Int.mul_one]
/-- the nearest whole of z (scale 6), half up -/
noncomputable def rnd (z : Int) : Int := (2 * z + 1000000) / 2000000
theorem rnd_whole {z : Int} (h : P6 z ≤ 0) : (T6 z).fdiv (10 ^ (P6 z).toNat) = rnd z := by
  have e : P6 z = 0 := by have := P6_lo z; omega
  have hm : T6 z * 1000000 = z := by have := T6_mul z; rw [e] at this; exact this
  rw [e]
  show (T6 z).fdiv 1 = _
  rw [Int.fdiv_one]
  unfold rnd
  omega
theorem rnd_part {z : Int} (h0 : 0 ≤ z) : (2 * T6 z + 10 ^ (P6 z).toNat) / (2 * 10 ^ (P6 z).toNat) = rnd z := by
  unfold rnd
  rcases cases6 z with q | q | q | q | q | q | q <;> rw [q.1]
  · show (2 * T6 z + 1) / (2 * 1) = _; have := q.2; omega
  · show (2 * T6 z + 10) / (2 * 10) = _; have := q.2.1; omega
  · show (2 * T6 z + 100) / (2 * 100) = _; have := q.2.1; omega
  · show (2 * T6 z + 1000) / (2 * 1000) = _; have := q.2.1; omega
  · show (2 * T6 z + 10000) / (2 * 10000) = _; have := q.2.1; omega
  · show (2 * T6 z + 100000) / (2 * 100000) = _; have := q.2.1; omega
  · show (2 * T6 z + 1000000) / (2 * 1000000) = _; have := q.2.1; omega
theorem T6_nonneg {z : Int} (h : 0 ≤ z) : 0 ≤ T6 z := by
  rcases cases6 z with q | q | q | q | q | q | q <;> omega
theorem fl_whole (q : Int) : (T6 (q * 1000000)).fdiv (10 ^ (P6 (q * 1000000)).toNat) = q := by
  rw [P6_zero (by omega), T6_zero (by omega)]
  show (q * 1000000 / 1000000).fdiv 1 = q
  rw [Int.fdiv_one]; omega
theorem P6_mill (z : Int) : P6 z ≤ 1000000 := Int.le_trans (P6_hi z) (by decide)
theorem mxe (x y : Int) : max (P6 x) (P6 y) = if P6 y > P6 x then P6 y else P6 x := by omega
theorem abs_of {t : Int} (h : 0 ≤ t) : (if t < 0 then -t else t) = t := if_neg (by omega)

/- the rules' tactics: kt_at_item: a name; kt_at_get: an expression; kt_at_method: a row; kt_at_notin: an operator; kt_at_in: a test; kt_eqs: a def; kt_len: a field; kt_ors: a method; kpf_c: a def entered -/
local macro_rules | `(tactic| kt_at_item) => `(tactic| first | with_reducible exact Lk.hd | with_reducible assumption | (with_reducible refine' Lk.tl (by decide +kernel) ?zx; (case zx => kt_at_item)))
local macro_rules | `(tactic| kt_at_notin) => `(tactic| first | with_reducible exact Do2.add | with_reducible exact Do2.sub | with_reducible exact Do2.eqi | with_reducible exact Do2.nei | with_reducible exact Do2.lti | with_reducible exact Do2.gti | with_reducible exact Do2.gei | with_reducible exact Do2.eqs | with_reducible exact Do2.isnn | with_reducible exact Do2.isdn)
local macro_rules | `(tactic| kt_len) => `(tactic| first | with_reducible exact At.top | with_reducible exact At.places)
local macro_rules | `(tactic| kt_at_method) => `(tactic| first | with_reducible exact Evs.nil | (with_reducible refine' Evs.consD ?za ?zb; (case za => kt_at_get); (case zb => kt_at_method)))
local macro_rules | `(tactic| kt_at_get) => `(tactic| first
  | (with_reducible refine' Ev.name ?zx; (case zx => kt_at_item))
  | with_reducible exact Ev.cint
  | with_reducible exact Ev.cstr
  | with_reducible exact Ev.cnone
  | (with_reducible refine' Ev.glob ?za ?zb; (case za => kernel_rfl); (case zb => k_is))
  | (with_reducible refine' Ev.bltn ?za ?zb ?zc; (case za => kernel_rfl); (case zb => k_is); (case zc => boot_fact))
  | (with_reducible refine' Ev.binD ?za ?zb ?zo; (case za => kt_at_get); (case zb => kt_at_get); (case zo => kt_at_notin))
  | (with_reducible refine' Ev.tuple ?za ?zl; (case za => kt_at_method); (case zl => exact Nat.le_of_ble_eq_true (by with_unfolding_all rfl)))
  | (with_reducible refine' Ev.list ?za ?zl; (case za => kt_at_method); (case zl => exact Nat.le_of_ble_eq_true (by with_unfolding_all rfl)))
  | (with_reducible refine' Ev.call ?zf ?zk ?za ?zF; (case zf => kt_at_get); (case zk => kernel_rfl); (case za => kt_at_method); (case zF => kt_eqs))
  | (with_reducible refine' Ev.callB ?zf ?za ?zF; (case zf => kt_at_get); (case za => kt_at_method); (case zF => kt_eqs))
  | (with_reducible refine' Ev.callT ?zf ?za ?zF; (case zf => kt_at_get); (case za => kt_at_method); (case zF => kt_eqs))
  | (with_reducible refine' Ev.attr ?za ?zb; (case za => kt_at_get); (case zb => kt_len))
  | (with_reducible refine' Ev.attrA ?za ?zb; (case za => kt_at_get); (case zb => kt_len))
  | (with_reducible refine' Ev.meth ?zo ?zm ?zk ?za ?zF; (case zo => kt_at_get); (case zm => kt_ors); (case zk => kernel_rfl); (case za => kt_at_method); (case zF => kt_eqs))
  | (with_reducible refine' Ev.meth0 ?zo ?zm ?zk ?zF; (case zo => kt_at_get); (case zm => kt_ors); (case zk => kernel_rfl); (case zF => kt_eqs)))
local macro_rules | `(tactic| kt_ors) => `(tactic| (with_reducible refine' Mt.dec ?z1 ?z2 ?z3 ?z4 ?z5; (case z1 => kernel_rfl); (case z2 => k_is); (case z3 => kernel_rfl); (case z4 => decide +kernel); (case z5 => decide +kernel)))
local macro_rules | `(tactic| kt_at_in) => `(tactic| first
  | (with_reducible refine' Ts.cmp ?za ?zb ?zo; (case za => kt_at_get); (case zb => kt_at_get); (case zo => kt_at_notin))
  | (with_reducible refine' Ts.not ?za; (case za => kt_at_in))
  | (with_reducible refine' Ts.plain ?za; (case za => kt_at_get)))
local macro_rules | `(tactic| kpf_c) => `(tactic| (refine' Fn.of ?ho ?hcd ?hb ?hx ?hnx ?hnd ?hco ?hgen ?hkd ?body; (case ho => k_is); (case hcd => k_is); (case hb => (intro s vs h; first | (obtain ⟨a, e⟩ := len1 h; subst e; exact BindsTo.of_eq rfl) | (obtain ⟨a, b, e⟩ := len2 h; subst e; exact BindsTo.of_eq rfl) | (obtain ⟨a, b, c, e⟩ := len3 h; subst e; exact BindsTo.of_eq rfl))); (case hx => kernel_rfl); (case hnx => decide +kernel); (case hnd => decide +kernel); (case hco => rfl); (case hgen => rfl); (case hkd => rfl); (dsimp only [List.map, List.zip, List.zipWith])))

variable {w : World} {d : Nat}
set_option maxRecDepth 100000
inductive NmA : AV → Int → Prop
  | int (i : Int) : NmA (.int i) (i * 1000000)
  | dec (x : Int) : NmA (.dec x) x
local macro_rules | `(tactic| kt_at_notin) => `(tactic| first
  | (with_reducible refine' Do2.pow ?zh0 ?zh1 ?zh2; (case zh0 => omega); (case zh1 => omega); (case zh2 => decide))
  | (with_reducible refine' Do2.mul ?zh; (case zh => first | exact IntMulOk.of_right (bits10 (by omega)) | exact IntMulOk.of_left (intBits_le_64 (by omega) (by omega)) | exact IntMulOk.of_right (intBits_le_64 (by omega) (by omega)) | exact IntMulOk.of_right (bits_sign _))))
local macro_rules | `(tactic| kt_eqs) => `(tactic| first
  | with_reducible exact Do.max2 | with_reducible exact Do.min2 | with_reducible exact Do.abs | with_reducible exact Do.sum
  | (with_reducible refine' Do.len ?zh0 ?zh1; (case zh0 => exact rfl); (case zh1 => first | decide | assumption))
  | (with_reducible refine' Do.isi_dec ?zh; (case zh => kernel_rfl))
  | (with_reducible refine' Do.isi_int ?zh; (case zh => kernel_rfl)))
theorem F_sign_of {i : Int} : Fn w (d + 1) 173 [.int i] (· = .int i.sign) := by
  kpf_c
  refine' Ex.ifr ?t ?b ?r
  case t => kt_at_in
  case b =>
    intro h
    refine' Ex.last (Ex1.retD ?e ?k)
    case e => kt_at_get
    case k => rw [show i = 0 by simpa using h]; rfl
  case r =>
    intro h
    refine' Ex.last (Ex1.ret (Ev.ife ?t ?a ?b) fun _ h => h)
    case t => kt_at_in
    case a =>
      intro h'
      refine' Ev.imp ?e ?k
      case e => kt_at_get
      case k => rintro _ rfl; rw [Int.sign_eq_one_of_pos (by simpa using h')]
    case b =>
      intro h'
      refine' Ev.imp (Ev.neg ?e) ?k
      case e => kt_at_get
      case k =>
        rintro _ rfl
        have h1 : i ≠ 0 := by simpa using h
        have h2 : ¬ i > 0 := by simpa using h'
        rw [Int.sign_eq_neg_one_of_neg (by omega)]
local macro_rules | `(tactic| kt_eqs) => `(tactic| with_reducible exact F_sign_of)
theorem F_rq {t b : Int} (ht : 0 ≤ t ∧ t < 2 ^ 50) (hb : 0 < b ∧ b ≤ 1000000) : Fn w (d + 5) 180 [.int t, .int b] (· = .int ((2 * t + b) / (2 * b))) := by
  kpf_c
  refine' Ex.consD (Ex1.set ?e) (Ex.last (Ex1.ret ?e2 ?k))
  case e =>
    refine' Ev.binD ?a ?b ?o
    case a => kt_at_get
    case b => kt_at_get
    case o => exact Do2.fdiv (by rw [abs_of (by omega)]; omega) (by rw [abs_of (by omega)]; omega)
  case e2 => kt_at_get
  case k =>
    rintro _ rfl
    exact congrArg AV.int (rq_eq ht.1 hb.1)
local macro_rules | `(tactic| kt_eqs) => `(tactic| (with_reducible refine' Fn.decimal ?zp0 ?zp1 ?zx; (case zp0 => first | decide | omega); (case zp1 => first | decide | omega); (case zx => first | exact px0 _ | exact px1 _ | exact px2 _ | exact px4 _ | assumption)))
theorem F_decimal_of {a : AV} {x : Int} (h : NmA a x) : Fn w (d + 12) 187 [a] (· = .dec x) := by
  cases h with
  | int i =>
    kpf_c
    refine' Ex.ifrF ?t (Ex.ifrF (Ts.bool (TsB.or_f ?t1 (TsB.or_f ?t2 TsB.or_nil))) (Ex.last (Ex1.retD ?e rfl)))
    case t => kt_at_in
    case t1 => kt_at_in
    case t2 => exact Ts.not (b := true) (by kt_at_in)
    case e =>
      kt_at_get
  | dec x =>
    kpf_c
    refine' Ex.ifrT ?t (Ex.last (Ex1.retD ?e rfl))
    case t => kt_at_in
    case e => kt_at_get
local macro_rules | `(tactic| kt_eqs) => `(tactic| (with_reducible refine' F_decimal_of ?zn; (case zn => first | exact NmA.dec _ | exact NmA.int _ | assumption)))
theorem F_scale {a b : AV} {x y : Int} (ha : NmA a x) (hb : NmA b y) : Fn w (d + 15) 194 [a, b] (· = .tup [.int (T6 x * 10 ^ (max (P6 x) (P6 y) - P6 x).toNat), .int (T6 y * 10 ^ (max (P6 x) (P6 y) - P6 y).toNat), .int (max (P6 x) (P6 y))]) := by
  have hx0 := P6_lo x
  have hx1 := P6_hi x
  have hy0 := P6_lo y
  have hy1 := P6_hi y
  kpf_c
  refine' Ex.consD (Ex1.set ?e1) (Ex.consD (Ex1.set ?e2) (Ex.consD (Ex1.set ?e3) (Ex.last (Ex1.retD ?e rfl))))
  case e1 => kt_at_get
  case e2 => kt_at_get
  case e3 => kt_at_get
  case e => kt_at_get
local macro_rules | `(tactic| kt_eqs) => `(tactic| (with_reducible refine' F_scale ?zn ?zm; (case zn => first | exact NmA.dec _ | exact NmA.int _ | assumption); (case zm => first | exact NmA.dec _ | exact NmA.int _ | assumption)))
theorem F_compared {b : AV} {x y : Int} (hb : NmA b y) : Fn w (d + 20) 110 [.dec x, b] (· = .int (x - y).sign) := by
  kpf_c
  refine' Ex.consD (Ex1.unp3T ?e1) ?r
  case e1 => kt_at_get
  case r =>
    refine' Ex.last (Ex1.ret ?e ?k)
    case e => kt_at_get
    case k =>
      rintro _ rfl
      rw [mxe]
      exact congrArg AV.int (minus_sign x y)
local macro_rules | `(tactic| kt_eqs) => `(tactic| (with_reducible refine' F_compared ?zn; (case zn => first | exact NmA.dec _ | exact NmA.int _ | assumption)))
theorem F_minus {b : AV} {x y : Int} (hb : NmA b y) : Fn w (d + 25) 89 [.dec x, b] (· = .dec (x - y)) := by
  have hx0 := P6_lo x
  have hx1 := P6_hi x
  have hy0 := P6_lo y
  have hy1 := P6_hi y
  have hm : (T6 x * 10 ^ (max (P6 x) (P6 y) - P6 x).toNat - T6 y * 10 ^ (max (P6 x) (P6 y) - P6 y).toNat) * 10 ^ (6 - max (P6 x) (P6 y)).toNat = x - y := by rw [mxe]; exact minus_eq x y
  kpf_c
  refine' Ex.consD (Ex1.unp3T ?e1) ?r
  case e1 => kt_at_get
  case r =>
    refine' Ex.last (Ex1.retD ?e rfl)
    case e => kt_at_get
local macro_rules | `(tactic| kt_eqs) => `(tactic| (with_reducible refine' F_minus ?zn; (case zn => first | exact NmA.dec _ | exact NmA.int _ | assumption)))
theorem F_times {b : AV} {x y z : Int} (hb : NmA b y) (hxy : P6 x + P6 y ≤ 6) (hz : z * 1000000 = x * y) (hbd : -(2 ^ 60) < x ∧ x < 2 ^ 60) : Fn w (d + 25) 96 [.dec x, b] (· = .dec z) := by
  have hx0 := P6_lo x
  have hx1 := P6_hi x
  have hy0 := P6_lo y
  have hy1 := P6_hi y
  have hTx := T6_abs x
  have hm := times_eq hxy hz
  kpf_c
  refine' Ex.consD (Ex1.set ?e1) (Ex.last (Ex1.retD ?e rfl))
  case e1 => kt_at_get
  case e => kt_at_get
theorem F_told {x : Int} : Fn w (d + 5) 138 [.dec x] (· = .tup [.int (T6 x), .int (P6 x)]) := by
  kpf_c
  refine' Ex.last (Ex1.retD ?e rfl)
  case e => kt_at_get
local macro_rules | `(tactic| kt_eqs) => `(tactic| with_reducible exact F_told)

variable {w : World} {d : Nat}
set_option maxRecDepth 100000
theorem F_floor {q : Int} : Fn w (d + 5) 124 [.dec (q * 1000000)] (· = .int q) := by
  have h0 := P6_lo (q * 1000000)
  have h1 := P6_hi (q * 1000000)
  kpf_c
  refine' Ex.last (Ex1.ret (Ev.binD ?a ?b (Do2.fdiv (pow10_ne _) (pow10_small h1))) ?k)
  case a => kt_at_get
  case b => kt_at_get
  case k => rintro _ rfl; exact congrArg AV.int (fl_whole q)
local macro_rules | `(tactic| kt_eqs) => `(tactic| with_reducible exact F_floor)
theorem F_rounded {z : Int} (h0 : 0 ≤ z) (h1 : z < 2 ^ 50) : Fn w (d + 20) 131 [.dec z, .int 0] (· = .dec (rnd z * 1000000)) := by
  have hp0 := P6_lo z
  have hp1 := P6_hi z
  have ht := T6_abs z
  have ht0 := T6_nonneg h0
  kpf_c
  refine' Ex.ifr ?t (fun h => Ex.last (Ex1.retD ?e ?k)) (fun h => Ex.last (Ex1.retD ?e2 rfl))
  case t => kt_at_in
  case e => kt_at_get
  case k =>
    have hz : P6 z = 0 := by have : P6 z ≤ 0 := by simpa using h
                             omega
    have hm := T6_mul z
    rw [hz, show T6 z * 10 ^ (6 - 0 : Int).toNat = T6 z * 1000000 from rfl] at hm
    exact congrArg AV.dec (by unfold rnd; omega)
  case e2 =>
    refine' Ev.call ?zf ?zk (Evs.consD ?a (Evs.consD ?b Evs.nil)) ?zF
    case zf => kt_at_get
    case zk => kernel_rfl
    case a =>
      refine' Ev.to (b := .int (rnd z)) (Ev.call ?zf ?zk ?za (F_rq ⟨ht0, by omega⟩ ⟨pow10_pos (P6 z - 0).toNat, pow10_le (by omega)⟩)) ?k
      case zf => kt_at_get
      case zk => kernel_rfl
      case za => kt_at_method
      case k => rw [Int.sub_zero]; exact congrArg AV.int (rnd_part h0)
    case b => kt_at_get
    case zF => kt_eqs
theorem F_least {p : AV × Int} {r : List (AV × Int)} (h : ∀ q ∈ p :: r, NmA q.1 q.2) (hl : (p :: r).length ≤ 1000) : Fn w (d + 40) 213 [.lst ((p :: r).map (·.1))] (· = .dec (r.foldl (fun y q => min y q.2) p.2)) := by
  have hp := h p (.head _)
  kpf_c
  refine' Ex.ifrF (Ts.to (Ts.cmp (Ev.callB ?z1 ?z2 (Do.len rfl ?z3)) ?z4 Do2.eqi) ?z5) (Ex.consD (Ex1.set ?e1) (Ex.cons (N' := fun ρ' => Lk ρ' (Str.ofString "best") (.dec (r.foldl (fun y q => min y q.2) p.2))) (Ex1.forM (l := r) (g := (·.1)) ?e2 ?hl ?hf) (fun ρ' hρ => Ex.last (Ex1.retD ?e3 rfl))))
  case z1 => kt_at_get
  case z2 => kt_at_method
  case z3 => simpa using hl
  case z4 => kt_at_get
  case z5 => simp; omega
  case e1 =>
    refine' Ev.call ?zf ?zk (Evs.consD (Ev.item ?a ?b ?c ?d ?e) Evs.nil) ?zF
    case zf => kt_at_get
    case zk => kernel_rfl
    case a => kt_at_get
    case b => kt_at_get
    case c => decide
    case d => decide
    case e => rfl
    case zF => kt_eqs
  case e2 =>
    refine' Ev.slice (i := some 1) (j := none) ?a (Pt.some ?b) Pt.none ?c ?d
    case a => kt_at_get
    case b => kt_at_get
    case c =>
      exact pick_tail _ _
    case d => simpa using hl
  case hl => kernel_rfl
  case hf =>
    refine' Fors.fold (Inv := fun y ρ => Lk ρ (Str.ofString "best") (.dec y)) r p.2 _ ?a Lk.hd
    case a =>
      intro q hq y ρ hy
      have hn := h q (.tail _ hq)
      dsimp only [List.cons_append, List.nil_append]
      refine' Ex.cons (Ex1.ife (N := fun ρ' => Lk ρ' (Str.ofString "best") (.dec (min y q.2))) ?t (fun hb => Ex.cons (Ex1.set ?e) ?k) (fun hb => Ex.nil ?k2)) (fun ρ' h => Ex.nil h)
      case t => kt_at_in
      case e => kt_at_get
      case k =>
        intro ρ' hρ
        subst hρ
        refine Ex.nil ?_
        rw [min_pos (by simpa using hb)]
        exact Lk.hd
      case k2 =>
        rw [min_not (by simpa using hb)]
        exact Lk.tl (by decide +kernel) hy
  case e3 => kt_at_get
theorem F_greatest {p : AV × Int} {r : List (AV × Int)} (h : ∀ q ∈ p :: r, NmA q.1 q.2) (hl : (p :: r).length ≤ 1000) : Fn w (d + 40) 220 [.lst ((p :: r).map (·.1))] (· = .dec (r.foldl (fun y q => max y q.2) p.2)) := by
  have hp := h p (.head _)
  kpf_c
  refine' Ex.ifrF (Ts.to (Ts.cmp (Ev.callB ?z1 ?z2 (Do.len rfl ?z3)) ?z4 Do2.eqi) ?z5) (Ex.consD (Ex1.set ?e1) (Ex.cons (N' := fun ρ' => Lk ρ' (Str.ofString "best") (.dec (r.foldl (fun y q => max y q.2) p.2))) (Ex1.forM (l := r) (g := (·.1)) ?e2 ?hl ?hf) (fun ρ' hρ => Ex.last (Ex1.retD ?e3 rfl))))
  case z1 => kt_at_get
  case z2 => kt_at_method
  case z3 => simpa using hl
  case z4 => kt_at_get
  case z5 => simp; omega
  case e1 =>
    refine' Ev.call ?zf ?zk (Evs.consD (Ev.item ?a ?b ?c ?d ?e) Evs.nil) ?zF
    case zf => kt_at_get
    case zk => kernel_rfl
    case a => kt_at_get
    case b => kt_at_get
    case c => decide
    case d => decide
    case e => rfl
    case zF => kt_eqs
  case e2 =>
    refine' Ev.slice (i := some 1) (j := none) ?a (Pt.some ?b) Pt.none ?c ?d
    case a => kt_at_get
    case b => kt_at_get
    case c =>
      exact pick_tail _ _
    case d => simpa using hl
  case hl => kernel_rfl
  case hf =>
    refine' Fors.fold (Inv := fun y ρ => Lk ρ (Str.ofString "best") (.dec y)) r p.2 _ ?a Lk.hd
    case a =>
      intro q hq y ρ hy
      have hn := h q (.tail _ hq)
      dsimp only [List.cons_append, List.nil_append]
      refine' Ex.cons (Ex1.ife (N := fun ρ' => Lk ρ' (Str.ofString "best") (.dec (max y q.2))) ?t (fun hb => Ex.cons (Ex1.set ?e) ?k) (fun hb => Ex.nil ?k2)) (fun ρ' h => Ex.nil h)
      case t => kt_at_in
      case e => kt_at_get
      case k =>
        intro ρ' hρ
        subst hρ
        refine Ex.nil ?_
        rw [max_neg (by simpa using hb)]
        exact Lk.hd
      case k2 =>
        rw [max_not (by simpa using hb)]
        exact Lk.tl (by decide +kernel) hy
  case e3 => kt_at_get
theorem F_least2 {a b : AV} {x y : Int} (ha : NmA a x) (hb : NmA b y) : Fn w (d + 40) 213 [.lst [a, b]] (· = .dec (min x y)) := F_least (p := (a, x)) (r := [(b, y)]) (by simp [ha, hb]) (by show (_ : Nat) ≤ 1000; simp)
theorem F_least3 {a b c : AV} {x y z : Int} (ha : NmA a x) (hb : NmA b y) (hc : NmA c z) : Fn w (d + 40) 213 [.lst [a, b, c]] (· = .dec (min (min x y) z)) := F_least (p := (a, x)) (r := [(b, y), (c, z)]) (by simp [ha, hb, hc]) (by show (_ : Nat) ≤ 1000; simp)
theorem F_greatest2 {a b : AV} {x y : Int} (ha : NmA a x) (hb : NmA b y) : Fn w (d + 40) 220 [.lst [a, b]] (· = .dec (max x y)) := F_greatest (p := (a, x)) (r := [(b, y)]) (by simp [ha, hb]) (by show (_ : Nat) ≤ 1000; simp)
local macro_rules | `(tactic| kt_eqs) => `(tactic| first
  | (with_reducible refine' F_least2 ?zn ?zm; (case zn => first | exact NmA.dec _ | exact NmA.int _ | assumption); (case zm => first | exact NmA.dec _ | exact NmA.int _ | assumption))
  | (with_reducible refine' F_least3 ?zn ?zm ?zl; (case zn => first | exact NmA.dec _ | exact NmA.int _ | assumption); (case zm => first | exact NmA.dec _ | exact NmA.int _ | assumption); (case zl => first | exact NmA.dec _ | exact NmA.int _ | assumption))
  | (with_reducible refine' F_greatest2 ?zn ?zm; (case zn => first | exact NmA.dec _ | exact NmA.int _ | assumption); (case zm => first | exact NmA.dec _ | exact NmA.int _ | assumption)))
theorem F_clamped {a : AV} {x : Int} (ha : NmA a x) : Fn w (d + 50) 227 [a, .int 0, .int 1] (· = .dec (clp x)) := by
  kpf_c
  refine' Ex.ifrF (Ts.to ?t ?tk) (Ex.last (Ex1.ret ?e ?k))
  case t => kt_at_in
  case tk => decide
  case e => kt_at_get
  case k => rintro _ rfl; rfl
local macro_rules | `(tactic| kt_eqs) => `(tactic| (with_reducible refine' F_clamped ?zn; (case zn => first | exact NmA.dec _ | exact NmA.int _ | assumption)))
theorem F_octet {a : AV} {x : Int} (ha : NmA a x) : Fn w (d + 60) 446 [a] (· = .int (rnd (clp x * 255))) := by
  have hc0 := clp_lo x
  have hc1 := clp_hi x
  kpf_c
  refine' Ex.last (Ex1.retD ?e rfl)
  case e =>
    refine' Ev.meth0 (Ev.meth (Ev.meth ?o ?zm ?zk ?za (F_times (NmA.int 255) (pl255 (clp x)) (prod255 (clp x)) (clp_bd x))) ?ym ?yk ?ya (F_rounded (by omega) (by omega))) ?xm ?xk F_floor
    case o => kt_at_get
    case zm => kt_ors
    case zk => kernel_rfl
    case za => kt_at_method
    case ym => kt_ors
    case yk => kernel_rfl
    case ya => kt_at_method
    case xm => kt_ors
    case xk => kernel_rfl

variable {w : World} {d : Nat}
set_option maxRecDepth 100000
/-- the most places of a row of numbers -/
noncomputable def mostP (xs : List Int) (p : Int) : Int := xs.foldl (fun p x => max p (P6 x)) p
theorem mostP_le : ∀ (xs : List Int) (p : Int), p ≤ mostP xs p ∧ (∀ x ∈ xs, P6 x ≤ mostP xs p) ∧ (p ≤ 6 → mostP xs p ≤ 6)
  | [], p => ⟨Int.le_refl _, (fun _ h => by cases h), id⟩
  | x :: xs, p => by
    obtain ⟨h1, h2, h3⟩ := mostP_le xs (max p (P6 x))
    have hx := P6_hi x
    refine ⟨Int.le_trans (by omega) h1, fun y hy => ?_, fun hp => h3 (by omega)⟩
    rcases List.mem_cons.mp hy with rfl | hy
    · exact Int.le_trans (by omega) h1
    · exact h2 y hy
theorem sum_scaled {p : Int} (hp : p ≤ 6) : ∀ (xs : List Int), (∀ x ∈ xs, P6 x ≤ p) → (xs.map fun x => T6 x * 10 ^ (p - P6 x).toNat).sum * 10 ^ (6 - p).toNat = xs.sum
  | [], _ => by simp
  | x :: xs, h => by
    rw [List.map_cons, List.sum_cons, List.sum_cons, Int.add_mul, scaled (h x (.head _)) hp, sum_scaled hp xs fun y hy => h y (.tail _ hy)]
theorem F_tops {xs : List Int} (hz : xs.length ≤ 1000) : Fn w (d + 20) 199 [.lst (xs.map .dec)] (· = .tup [.lst ((xs.map fun x => T6 x * 10 ^ (mostP xs 0 - P6 x).toNat).map .int), .int (mostP xs 0)]) := by
  obtain ⟨hp0, hp1, hp2⟩ := mostP_le xs 0
  have hp6 := hp2 (by decide)
  kpf_c
  refine' Ex.consD (Ex1.cell ?e1) (Ex.cons (N' := fun ρ' => Lk ρ' (Str.ofString "places") (.int (mostP xs 0)) ∧ Lk ρ' (Str.ofString "values") (.lst (xs.map .dec))) (Ex1.forM (l := xs) (g := .dec) ?e2 ?hl ?hf) (fun ρ' hρ => ?r))
  case e1 => kt_at_get
  case e2 => kt_at_get
  case hl => kernel_rfl
  case hf =>
    refine' Fors.fold (Inv := fun y ρ => Lk ρ (Str.ofString "places") (.int y) ∧ Lk ρ (Str.ofString "values") (.lst (xs.map .dec))) xs 0 _ ?a ?h
    case h => exact ⟨by kt_at_item, by kt_at_item⟩
    case a =>
      intro x hx y ρ hy
      obtain ⟨hy1, hy2⟩ := hy
      dsimp only [List.cons_append, List.nil_append]
      refine' Ex.consD (Ex1.cell ?e) (Ex.nil ?n)
      case e => kt_at_get
      case n => exact ⟨by kt_at_item, by kt_at_item⟩
  case r =>
    obtain ⟨h1, h2⟩ := hρ
    refine' Ex.last (Ex1.retD (Ev.tuple (Evs.consD (Ev.to (Ev.comp1 (l := xs) (g := .dec) (f := fun x => .int (T6 x * 10 ^ (mostP xs 0 - P6 x).toNat)) ?i ?sc hz h1 ?k1 ?k2 ?b ?cl) ?k) (Evs.consD ?e Evs.nil)) ?zl) rfl)
    case i => kt_at_get
    case sc => kernel_rfl
    case k1 => kernel_rfl
    case k2 => kernel_rfl
    case cl => exact fun env q h => closure_one h (by kernel_rfl)
    case k => rw [List.map_map]; rfl
    case e => kt_at_get
    case zl => exact Nat.le_of_ble_eq_true rfl
    case b =>
      intro x hx
      have hx0 := P6_lo x
      have hx1 := hp1 x hx
      kt_at_get
local macro_rules | `(tactic| kt_eqs) => `(tactic| (with_reducible refine' F_tops ?zn; (case zn => assumption)))
theorem F_sum {xs : List Int} (hz : xs.length ≤ 1000) : Fn w (d + 25) 206 [.lst (xs.map .dec)] (· = .dec xs.sum) := by
  obtain ⟨hp0, hp1, hp2⟩ := mostP_le xs 0
  have hp6 := hp2 (by decide)
  have hm := sum_scaled hp6 xs hp1
  kpf_c
  refine' Ex.consD (Ex1.unp2T ?e1) (Ex.last (Ex1.retD ?e rfl))
  case e1 => kt_at_get
  case e => kt_at_get
theorem F_rest {xs : List Int} (hz : xs.length ≤ 1000) : Fn w (d + 60) 408 [.lst (xs.map .dec)] (· = .dec (clp (1000000 - xs.sum))) := by
  kpf_c
  refine' Ex.last (Ex1.ret (Ev.call ?zf ?zk (Evs.consD (Ev.meth ?o ?m ?k (Evs.consD (Ev.call ?yf ?yk ?ya (F_sum hz)) Evs.nil) (F_minus (NmA.dec _))) (Evs.consD ?a (Evs.consD ?b Evs.nil))) (F_clamped (NmA.dec _))) ?kk)
  case zf => kt_at_get
  case zk => kernel_rfl
  case o => kt_at_get
  case m => kt_ors
  case k => kernel_rfl
  case yf => kt_at_get
  case yk => kernel_rfl
  case ya => kt_at_method
  case a => kt_at_get
  case b => kt_at_get
  case kk => rintro _ rfl; rfl
theorem F_rest1 {x : Int} : Fn w (d + 60) 408 [.lst [.dec x]] (· = .dec (clp (1000000 - x))) := by
  have h := F_rest (w := w) (d := d) (xs := [x]) (by show (_ : Nat) ≤ 1000; simp)
  rw [show ([x] : List Int).sum = x by simp] at h
  exact h
theorem F_rest2 {x y : Int} : Fn w (d + 60) 408 [.lst [.dec x, .dec y]] (· = .dec (clp (1000000 - (x + y)))) := by
  have h := F_rest (w := w) (d := d) (xs := [x, y]) (by show (_ : Nat) ≤ 1000; simp)
  rw [show ([x, y] : List Int).sum = x + y by simp] at h
  exact h
local macro_rules | `(tactic| kt_eqs) => `(tactic| first | with_reducible exact F_rest1 | with_reducible exact F_rest2)
theorem F_sum3 {x y z : Int} : Fn w (d + 25) 206 [.lst [.dec x, .dec y, .dec z]] (· = .dec (x + (y + z))) := by
  have h := F_sum (w := w) (d := d) (xs := [x, y, z]) (by show (_ : Nat) ≤ 1000; simp)
  rw [show ([x, y, z] : List Int).sum = x + (y + z) by simp] at h
  exact h
theorem F_bright {x y z : Int} (ox : Ok4 x) (oy : Ok4 y) (oz : Ok4 z) : Fn w (d + 60) 420 [.lst [.dec x, .dec y, .dec z]] (· = .dec (x / 100 * 30 + (y / 100 * 59 + z / 100 * 11))) := by
  kpf_c
  refine' Ex.consD (Ex1.unp3L ?e1) (Ex.last (Ex1.retD (Ev.call ?zf ?zk (Evs.consD (Ev.list (Evs.consD (Ev.meth ?o1 ?m1 ?k1 ?a1 (F_times (NmA.dec _) (pl30 ox) (prod30 ox) ox.bd)) (Evs.consD (Ev.meth ?o2 ?m2 ?k2 ?a2 (F_times (NmA.dec _) (pl59 oy) (prod59 oy) oy.bd)) (Evs.consD (Ev.meth ?o3 ?m3 ?k3 ?a3 (F_times (NmA.dec _) (pl11 oz) (prod11 oz) oz.bd)) Evs.nil))) ?zl) Evs.nil) F_sum3) rfl))
  case e1 => kt_at_get
  case zf => kt_at_get
  case zk => kernel_rfl
  case zl => exact Nat.le_of_ble_eq_true rfl
  case o1 => kt_at_get
  case o2 => kt_at_get
  case o3 => kt_at_get
  case m1 => kt_ors
  case m2 => kt_ors
  case m3 => kt_ors
  case k1 => kernel_rfl
  case k2 => kernel_rfl
  case k3 => kernel_rfl
  case a1 => kt_at_method
  case a2 => kt_at_method
  case a3 => kt_at_method

variable {w : World} {d : Nat}
set_option maxRecDepth 100000
theorem Do2.isin {i : Int} : Do2 w d (.int i) .none (fun u v => compareOp .Is u v) (· = .bool false) := by
  intro c m M news s u v Q E ok st hu hv q
  cases hu; cases hv
  exact is_int_none (q _ _ _ _ news st Sub.rfl' rfl (.bool _))
theorem Do2.inT2 {x a b : Str} : Do2 w d (.str x) (.tup [.str a, .str b]) (fun u v => compareOp .In u v) (· = .bool (([a, b] : List Str).any fun y => y == x)) := Do2.inT (ys := [a, b])
theorem Do2.neI {ns ms : List Int} : Do2 w d (.lst (ns.map .int)) (.lst (ms.map .int)) (fun u v => compareOp .NotEq u v) (· = .bool (!decide (ns = ms))) := by
  intro c m M news s u v Q E ok st hu hv q
  cases hu with | lst hm hs =>
  cases hv with | lst hm2 hs2 =>
  exact ke_ne_ints (st.list hm) (st.list hm2) (ints_of hs) (ints_of hs2) (by have := ok.hu; show c.un + 64 < cLine; omega) (q _ _ _ _ news st Sub.rfl' rfl (.bool _))
theorem Do2.ne00 : Do2 w d (.lst []) (.lst []) (fun u v => compareOp .NotEq u v) (· = .bool false) := Do2.neI (ns := []) (ms := [])
local macro_rules | `(tactic| kt_at_notin) => `(tactic| first | with_reducible exact Do2.isin | with_reducible exact Do2.inT2 | with_reducible exact Do2.ne00)
local macro_rules | `(tactic| kt_len) => `(tactic| first | with_reducible exact At.name | with_reducible exact At.count)
theorem F_kind {x : Int} : Fn w (d + 10) 326 [.dec x] (· = .str (Str.ofString "real")) := by
  kpf_c
  refine' Ex.ifrF ?t1 (Ex.ifrF ?t2 (Ex.ifrF ?t3 (Ex.ifrT ?t4 (Ex.last (Ex1.retD ?e rfl)))))
  case t1 => kt_at_in
  case t2 => kt_at_in
  case t3 => kt_at_in
  case t4 => kt_at_in
  case e => kt_at_get
local macro_rules | `(tactic| kt_eqs) => `(tactic| with_reducible exact F_kind)
theorem F_isnum {x : Int} : Fn w (d + 15) 333 [.dec x] (· = .bool true) := by
  kpf_c
  refine' Ex.last (Ex1.ret (Ev.cmp ?a ?b ?o) ?k)
  case a => kt_at_get
  case b => kt_at_get
  case o => kt_at_notin
  case k => rintro _ rfl; exact congrArg AV.bool (by decide +kernel)
local macro_rules | `(tactic| kt_eqs) => `(tactic| with_reducible exact F_isnum)
theorem F_cut {n : Str} {xs : List Int} {k : Int} (hk : (xs.length : Int) = k) (hz : xs.length ≤ 1000) (hn : (n == Str.ofString "Indexed") = false) : Fn w (d + 60) 401 [.sp n k, .lst (xs.map .dec)] (· = .lst ((xs.map clp).map .dec)) := by
  kpf_c
  refine' Ex.ifrF (Ts.bool (TsB.or_f (Ts.to (Ts.cmp ?a1 ?a2 Do2.nei) ?k1) (TsB.or_f (Ts.cmp (Ev.to (Ev.compT (l := xs) (g := .dec) (f := .dec) (t := fun _ => false) ?i ?sc hz ?ct ?ce) ?k2) ?b2 Do2.ne00) TsB.or_nil))) (Ex.ifrF (Ts.to (Ts.cmp ?c1 ?c2 Do2.eqs) hn) (Ex.last (Ex1.ret (Ev.comp (l := xs) (g := .dec) (f := fun x => .dec (clp x)) ?j ?sc2 hz ?cb) ?kk)))
  case a1 =>
    refine' Ev.callB ?zf ?za (Do.len (k := k) ?h ?h2)
    case zf => kt_at_get
    case za => kt_at_method
    case h => rw [List.length_map]; exact hk
    case h2 => rw [List.length_map]; exact hz
  case a2 => kt_at_get
  case k1 => simp
  case i => kt_at_get
  case sc => kernel_rfl
  case ct =>
    intro x hx
    exact Ts.not (b := true) (by kt_at_in)
  case ce => intro x hx e; cases e
  case k2 => simp
  case b2 => exact Ev.list Evs.nil (Nat.zero_le _)
  case c1 => kt_at_get
  case c2 => kt_at_get
  case j => kt_at_get
  case sc2 => kernel_rfl
  case cb => intro x hx; kt_at_get
  case kk => rintro _ rfl; rw [List.map_map]; rfl
/-- Space(name, count) -/
theorem Fn.space {n : Str} {c : Int} : Fn w (d + 10) 371 [.str n, .int c] (· = .sp n c) := by
  intro cx m M news s vs Q E ok st al q
  obtain ⟨u, v, rfl, h1, h2⟩ := al.inv2
  cases h1; cases h2
  refine ct_Space ok.B st.F ok.X st.N ok.T ok.hk (by have := ok.hd; omega) fun r b k1 k2 k3 k4 k5 k6 k7 h' tk' lt lt2 F' N' => ?_
  exact q _ _ _ _ _ (st.push2 F' N' lt lt2) (fun p hp => .tail _ (.tail _ hp)) rfl (.sp (.head _) (.tail _ (.head _)))
noncomputable abbrev gray : Str := Str.ofString "DeviceGray"
noncomputable abbrev rgb : Str := Str.ofString "DeviceRGB"
noncomputable abbrev cmyk : Str := Str.ofString "DeviceCMYK"
noncomputable abbrev spaces3 : List (Str × Int) := [(gray, 1), (rgb, 3), (cmyk, 4)]
theorem F_spaces : Fn w (d + 5) 382 [] (· = .dct (dctL spaces3)) := by
  refine' Fn.of ?ho ?hcd ?hb ?hx ?hnx ?hnd ?hco ?hgen ?hkd ?body
  case ho => k_is
  case hcd => k_is
  case hb =>
    intro s vs h
    match vs, h with
    | [], _ => exact BindsTo.of_eq rfl
  case hx => kernel_rfl
  case hnx => decide +kernel
  case hnd => decide +kernel
  case hco => rfl
  case hgen => rfl
  case hkd => rfl
  dsimp only [List.map, List.zip, List.zipWith]
  refine' Ex.last ?e0
  with_reducible refine' Ex1.retD ?e ?k
  case' e =>
    with_reducible refine' Ev.dict3 ?hh
    case hh => decide +kernel
  case k => rfl
theorem F_space {n : Str} {k : Int} (h : Spec.lookup (PyData.str n) (dctL spaces3) = some (.int k)) : Fn w (d + 20) 389 [.str n] (· = .sp n k) := by
  kpf_c
  refine' Ex.last (Ex1.retD (Ev.call ?zf ?zk (Evs.consD ?a (Evs.consD (Ev.ditem (Ev.call0 ?f ?k F_spaces) ?e h) Evs.nil)) Fn.space) rfl)
  case zf => kt_at_get
  case zk => kernel_rfl
  case a => kt_at_get
  case f => kt_at_get
  case k => kernel_rfl
  case e => kt_at_get
theorem F_count {n : Str} {k : Int} (h : (n, k) ∈ spaces3) : Fn w (d + 30) 396 [.int k] (· = .sp n k) := by
  kpf_c
  refine' Ex.cons (N' := fun _ => False) (Ex1.forD (l := spaces3) (Ev.call0 ?f ?k F_spaces) ?hx ?hy ?hf) (fun _ h => h.elim)
  case f => kt_at_get
  case k => kernel_rfl
  case hx => kernel_rfl
  case hy => kernel_rfl
  case hf =>
    dsimp only [spaces3, Fors, List.map, List.cons_append, List.nil_append]
    simp only [List.mem_cons, Prod.mk.injEq, List.not_mem_nil, or_false] at h
    rcases h with ⟨rfl, rfl⟩ | ⟨rfl, rfl⟩ | ⟨rfl, rfl⟩
    · refine' Ex.ifrT (Ts.to (Ts.cmp ?a ?b Do2.eqi) ?k) (Ex.last (Ex1.retD (Ev.call ?zf ?zk ?za (F_space ?s)) rfl))
      case a => kt_at_get
      case b => kt_at_get
      case k => decide
      case zf => kt_at_get
      case zk => kernel_rfl
      case za => kt_at_method
      case s => kernel_rfl
    · refine' Ex.ifrF (Ts.to (Ts.cmp ?a ?b Do2.eqi) ?k) (Ex.nil (Ex.ifrT (Ts.to (Ts.cmp ?a2 ?b2 Do2.eqi) ?k2) (Ex.last (Ex1.retD (Ev.call ?zf ?zk ?za (F_space ?s)) rfl))))
      case a => kt_at_get
      case b => kt_at_get
      case k => decide
      case a2 => kt_at_get
      case b2 => kt_at_get
      case k2 => decide
      case zf => kt_at_get
      case zk => kernel_rfl
      case za => kt_at_method
      case s => kernel_rfl
    · refine' Ex.ifrF (Ts.to (Ts.cmp ?a ?b Do2.eqi) ?k) (Ex.nil (Ex.ifrF (Ts.to (Ts.cmp ?a2 ?b2 Do2.eqi) ?k2) (Ex.nil (Ex.ifrT (Ts.to (Ts.cmp ?a3 ?b3 Do2.eqi) ?k3) (Ex.last (Ex1.retD (Ev.call ?zf ?zk ?za (F_space ?s)) rfl))))))
      case a => kt_at_get
      case b => kt_at_get
      case k => decide
      case a2 => kt_at_get
      case b2 => kt_at_get
      case k2 => decide
      case a3 => kt_at_get
      case b3 => kt_at_get
      case k3 => decide
      case zf => kt_at_get
      case zk => kernel_rfl
      case za => kt_at_method
      case s => kernel_rfl

variable {w : World} {d : Nat}
set_option maxRecDepth 100000
local macro_rules | `(tactic| kt_at_get) => `(tactic| first | (with_reducible refine' Ev.item ?zo ?zi ?zh ?zk ?zx; (case zo => kt_at_get); (case zi => kt_at_get); (case zh => decide +kernel); (case zk => decide +kernel); (case zx => with_unfolding_all rfl)) | fail)
noncomputable abbrev bri (x y z : Int) : Int := x / 100 * 30 + (y / 100 * 59 + z / 100 * 11)
/-- an if of the text that is passed, one that is taken -/
theorem F_rgb3 {l : List AV} (hz : l.length ≤ 1000) : Fn w (d + 10) 413 [.str rgb, .lst l] (· = .lst l) := by
  kpf_c
  refine' Ex.ifrT (Ts.to (Ts.cmp ?a ?b Do2.eqs) ?k) (Ex.last (Ex1.retD (Ev.callT ?zf ?za (Do.list hz)) rfl))
  case a => kt_at_get
  case b => kt_at_get
  case k => decide +kernel
  case zf => kt_at_get
  case za => kt_at_method
theorem F_rgb1 {a : AV} : Fn w (d + 10) 413 [.str gray, .lst [a]] (· = .lst [a, a, a]) := by
  kpf_c
  refine' Ex.ifrF (Ts.to (Ts.cmp ?a ?b Do2.eqs) ?k) (Ex.ifrT (Ts.to (Ts.cmp ?a2 ?b2 Do2.eqs) ?k2) (Ex.last (Ex1.retD ?e rfl)))
  case a => kt_at_get
  case b => kt_at_get
  case k => decide +kernel
  case a2 => kt_at_get
  case b2 => kt_at_get
  case k2 => decide +kernel
  case e => kt_at_get
theorem F_rgb4 {x y z k : Int} : Fn w (d + 80) 413 [.str cmyk, .lst [.dec x, .dec y, .dec z, .dec k]] (· = .lst [.dec (clp (1000000 - (x + k))), .dec (clp (1000000 - (y + k))), .dec (clp (1000000 - (z + k)))]) := by
  kpf_c
  refine' Ex.ifrF (Ts.to (Ts.cmp ?a ?b Do2.eqs) ?k) (Ex.ifrF (Ts.to (Ts.cmp ?a2 ?b2 Do2.eqs) ?k2) (Ex.last (Ex1.retD (Ev.to (Ev.comp1 (l := [x, y, z]) (g := .dec) (f := fun v => .dec (clp (1000000 - (v + k)))) ?i ?sc ?hz ?hy ?k3 ?k4 ?hb ?cl) ?kk) rfl)))
  case a => kt_at_get
  case b => kt_at_get
  case k => decide +kernel
  case a2 => kt_at_get
  case b2 => kt_at_get
  case k2 => decide +kernel
  case hy => exact .tl (by decide +kernel) .hd
  case i =>
    refine' Ev.slice ?o Pt.none (Pt.some (k := 3) ?e) ?r ?z
    case o => kt_at_get
    case e => kt_at_get
    case r => exact rfl
    case z => exact Nat.le_of_ble_eq_true rfl
  case sc => kernel_rfl
  case hz => exact Nat.le_of_ble_eq_true rfl
  case k3 => kernel_rfl
  case k4 => kernel_rfl
  case hb => intro v hv; kt_at_get
  case cl => exact fun env q h => closure_one h (by kernel_rfl)
  case kk => rfl
local macro_rules | `(tactic| kt_eqs) => `(tactic| first | (with_reducible refine' F_rgb3 ?zn; (case zn => exact Nat.le_of_ble_eq_true rfl)) | with_reducible exact F_rgb1 | with_reducible exact F_rgb4)
theorem F_dgray1 {a : AV} : Fn w (d + 10) 427 [.str gray, .lst [a]] (· = a) := by
  kpf_c
  refine' Ex.ifrT (Ts.to (Ts.cmp ?a ?b Do2.eqs) ?k) (Ex.last (Ex1.retD ?e rfl))
  case a => kt_at_get
  case b => kt_at_get
  case k => decide +kernel
  case e => kt_at_get
theorem F_dgray3 {x y z : Int} (ox : Ok4 x) (oy : Ok4 y) (oz : Ok4 z) : Fn w (d + 80) 427 [.str rgb, .lst [.dec x, .dec y, .dec z]] (· = .dec (bri x y z)) := by
  kpf_c
  refine' Ex.ifrF (Ts.to (Ts.cmp ?a ?b Do2.eqs) ?k) (Ex.ifrT (Ts.to (Ts.cmp ?a2 ?b2 Do2.eqs) ?k2) (Ex.last (Ex1.retD (Ev.call ?zf ?zk ?za (F_bright ox oy oz)) rfl)))
  case a => kt_at_get
  case b => kt_at_get
  case k => decide +kernel
  case a2 => kt_at_get
  case b2 => kt_at_get
  case k2 => decide +kernel
  case zf => kt_at_get
  case zk => kernel_rfl
  case za => kt_at_method
theorem F_dgray4 {x y z k : Int} (ox : Ok4 x) (oy : Ok4 y) (oz : Ok4 z) : Fn w (d + 100) 427 [.str cmyk, .lst [.dec x, .dec y, .dec z, .dec k]] (· = .dec (clp (1000000 - (bri x y z + k)))) := by
  kpf_c
  refine' Ex.ifrF (Ts.to (Ts.cmp ?a ?b Do2.eqs) ?k) (Ex.ifrF (Ts.to (Ts.cmp ?a2 ?b2 Do2.eqs) ?k2) (Ex.last (Ex1.retD (Ev.call ?zf ?zk (Evs.consD (Ev.list (Evs.consD (Ev.call ?yf ?yk (Evs.consD (Ev.slice ?o Pt.none (Pt.some (k := 3) ?e) (r := [.dec x, .dec y, .dec z]) ?r ?z) Evs.nil) (F_bright ox oy oz)) (Evs.consD ?i Evs.nil)) ?zl) Evs.nil) F_rest2) rfl)))
  case a => kt_at_get
  case b => kt_at_get
  case k => decide +kernel
  case a2 => kt_at_get
  case b2 => kt_at_get
  case k2 => decide +kernel
  case zf => kt_at_get
  case zk => kernel_rfl
  case yf => kt_at_get
  case yk => kernel_rfl
  case o => kt_at_get
  case e => kt_at_get
  case r => exact rfl
  case z => exact Nat.le_of_ble_eq_true rfl
  case i => kt_at_get
  case zl => exact Nat.le_of_ble_eq_true rfl
local macro_rules | `(tactic| kt_eqs) => `(tactic| first | with_reducible exact F_dgray1 | with_reducible exact F_dgray3 (by assumption) (by assumption) (by assumption) | with_reducible exact F_dgray4 (by assumption) (by assumption) (by assumption))
theorem F_cmyk4 {l : List AV} (hz : l.length ≤ 1000) : Fn w (d + 10) 432 [.str cmyk, .lst l] (· = .lst l) := by
  kpf_c
  refine' Ex.ifrT (Ts.to (Ts.cmp ?a ?b Do2.eqs) ?k) (Ex.last (Ex1.retD (Ev.callT ?zf ?za (Do.list hz)) rfl))
  case a => kt_at_get
  case b => kt_at_get
  case k => decide +kernel
  case zf => kt_at_get
  case za => kt_at_method
theorem F_cmyk1 {x : Int} : Fn w (d + 80) 432 [.str gray, .lst [.dec x]] (· = .lst [.dec 0, .dec 0, .dec 0, .dec (clp (1000000 - x))]) := by
  kpf_c
  refine' Ex.ifrF (Ts.to (Ts.cmp ?a ?b Do2.eqs) ?k) (Ex.ifrT (Ts.to (Ts.cmp ?a2 ?b2 Do2.eqs) ?k2) (Ex.last (Ex1.retD (Ev.to ?e ?kk) rfl)))
  case a => kt_at_get
  case b => kt_at_get
  case k => decide +kernel
  case a2 => kt_at_get
  case b2 => kt_at_get
  case k2 => decide +kernel
  case' e => kt_at_get
  case kk => rfl
theorem F_cmyk3 {x y z : Int} : Fn w (d + 80) 432 [.str rgb, .lst [.dec x, .dec y, .dec z]] (· = .lst [.dec (clp (1000000 - x) - min (min (clp (1000000 - x)) (clp (1000000 - y))) (clp (1000000 - z))), .dec (clp (1000000 - y) - min (min (clp (1000000 - x)) (clp (1000000 - y))) (clp (1000000 - z))), .dec (clp (1000000 - z) - min (min (clp (1000000 - x)) (clp (1000000 - y))) (clp (1000000 - z))), .dec (min (min (clp (1000000 - x)) (clp (1000000 - y))) (clp (1000000 - z)))]) := by
  generalize hp : min (min (clp (1000000 - x)) (clp (1000000 - y))) (clp (1000000 - z)) = p
  kpf_c
  refine' Ex.ifrF (Ts.to (Ts.cmp ?a ?b Do2.eqs) ?k) (Ex.ifrF (Ts.to (Ts.cmp ?a2 ?b2 Do2.eqs) ?k2) (Ex.consD (Ex1.comp (l := [x, y, z]) (g := .dec) (f := fun v => .dec (clp (1000000 - v))) (Ev.to ?i ?ki) ?sc ?hz ?hb ?hl) ?rest))
  case a => kt_at_get
  case b => kt_at_get
  case k => decide +kernel
  case a2 => kt_at_get
  case b2 => kt_at_get
  case k2 => decide +kernel
  case' i => kt_at_get
  case ki => rfl
  case sc => kernel_rfl
  case hz => exact Nat.le_of_ble_eq_true rfl
  case hb =>
    intro v hv
    refine' Ev.call ?zf ?zk ?za F_rest1
    case zf => kt_at_get
    case zk => kernel_rfl
    case za => kt_at_method
  case hl => kernel_rfl
  case rest =>
    dsimp only [List.map]
    refine' Ex.consD (Ex1.cell (Ev.to ?e1 (congrArg AV.dec hp))) (Ex.last (Ex1.retD (Ev.to (Ev.binD (Ev.comp1 (l := [clp (1000000 - x), clp (1000000 - y), clp (1000000 - z)]) (g := .dec) (f := fun v => .dec (v - p)) (Ev.to ?i2 ?ki2) ?sc2 ?hz2 ?hy2 ?k3 ?k4 ?hb2 ?cl) ?e2 (Do2.addL ?ha)) ?kk) rfl))
    case e1 => kt_at_get
    case' i2 => kt_at_get
    case ki2 => rfl
    case sc2 => kernel_rfl
    case hz2 => exact Nat.le_of_ble_eq_true rfl
    case hy2 => exact .hd
    case k3 => kernel_rfl
    case k4 => kernel_rfl
    case hb2 => intro v hv; kt_at_get
    case cl => exact fun env q h => closure_one h (by kernel_rfl)
    case e2 => kt_at_get
    case ha => exact Nat.le_of_ble_eq_true rfl
    case kk => rfl

variable {w : World} {d : Nat}
set_option maxRecDepth 100000
local macro_rules | `(tactic| kt_eqs) => `(tactic| first | (with_reducible refine' F_space ?zs; (case zs => assumption)) | (with_reducible refine' F_cut ?zh ?zz ?zn; (case zh => assumption); (case zz => assumption); (case zn => assumption)) | with_reducible assumption)
theorem F_colG {n : Str} {k : Int} {xs : List Int} {a : AV} (h : Spec.lookup (PyData.str n) (dctL spaces3) = some (.int k)) (hk : (xs.length : Int) = k) (hz : xs.length ≤ 1000) (hn : (n == Str.ofString "Indexed") = false) (H : Fn w (d + 109) 427 [.str n, .lst ((xs.map clp).map .dec)] (· = a)) :
    Fn w (d + 110) 439 [.str n, .lst (xs.map .dec), .str gray] (· = .lst [a]) := by
  kpf_c
  refine' Ex.consD (Ex1.set ?e) (Ex.ifrT (Ts.to (Ts.cmp ?a ?b Do2.eqs) ?k) (Ex.last (Ex1.retD ?e2 rfl)))
  case e => kt_at_get
  case a => kt_at_get
  case b => kt_at_get
  case k => decide +kernel
  case e2 => kt_at_get
theorem F_colR {n : Str} {k : Int} {xs : List Int} {a : AV} (h : Spec.lookup (PyData.str n) (dctL spaces3) = some (.int k)) (hk : (xs.length : Int) = k) (hz : xs.length ≤ 1000) (hn : (n == Str.ofString "Indexed") = false) (H : Fn w (d + 109) 413 [.str n, .lst ((xs.map clp).map .dec)] (· = a)) :
    Fn w (d + 110) 439 [.str n, .lst (xs.map .dec), .str rgb] (· = a) := by
  kpf_c
  refine' Ex.consD (Ex1.set ?e) (Ex.ifrF (Ts.to (Ts.cmp ?a ?b Do2.eqs) ?k) (Ex.last (Ex1.retD (Ev.ifeT (Ts.to (Ts.cmp ?a2 ?b2 Do2.eqs) ?k2) ?e2) rfl)))
  case e => kt_at_get
  case a => kt_at_get
  case b => kt_at_get
  case k => decide +kernel
  case a2 => kt_at_get
  case b2 => kt_at_get
  case k2 => decide +kernel
  case e2 => kt_at_get
theorem F_colC {n : Str} {k : Int} {xs : List Int} {a : AV} (h : Spec.lookup (PyData.str n) (dctL spaces3) = some (.int k)) (hk : (xs.length : Int) = k) (hz : xs.length ≤ 1000) (hn : (n == Str.ofString "Indexed") = false) (H : Fn w (d + 109) 432 [.str n, .lst ((xs.map clp).map .dec)] (· = a)) :
    Fn w (d + 110) 439 [.str n, .lst (xs.map .dec), .str cmyk] (· = a) := by
  kpf_c
  refine' Ex.consD (Ex1.set ?e) (Ex.ifrF (Ts.to (Ts.cmp ?a ?b Do2.eqs) ?k) (Ex.last (Ex1.retD (Ev.ifeF (Ts.to (Ts.cmp ?a2 ?b2 Do2.eqs) ?k2) ?e2) rfl)))
  case e => kt_at_get
  case a => kt_at_get
  case b => kt_at_get
  case k => decide +kernel
  case a2 => kt_at_get
  case b2 => kt_at_get
  case k2 => decide +kernel
  case e2 => kt_at_get
theorem lk1 : Spec.lookup (PyData.str gray) (dctL spaces3) = some (.int 1) := by kernel_rfl
theorem lk3 : Spec.lookup (PyData.str rgb) (dctL spaces3) = some (.int 3) := by kernel_rfl
theorem lk4 : Spec.lookup (PyData.str cmyk) (dctL spaces3) = some (.int 4) := by kernel_rfl
theorem nx1 : (gray == Str.ofString "Indexed") = false := by decide +kernel
theorem nx3 : (rgb == Str.ofString "Indexed") = false := by decide +kernel
theorem nx4 : (cmyk == Str.ofString "Indexed") = false := by decide +kernel
theorem le_k {n k : Nat} (h : Nat.ble n k = true) : n ≤ k := Nat.le_of_ble_eq_true h
theorem col_gg {x : Int} : Fn w (d + 110) 439 [.str gray, .lst ([x].map .dec), .str gray] (· = .lst ([clp x].map .dec)) := F_colG lk1 rfl (le_k rfl) nx1 F_dgray1
theorem col_gr {x : Int} : Fn w (d + 110) 439 [.str gray, .lst ([x].map .dec), .str rgb] (· = .lst ([clp x, clp x, clp x].map .dec)) := F_colR lk1 rfl (le_k rfl) nx1 F_rgb1
theorem col_gc {x : Int} : Fn w (d + 110) 439 [.str gray, .lst ([x].map .dec), .str cmyk] (· = .lst ([0, 0, 0, clp (1000000 - clp x)].map .dec)) := F_colC lk1 rfl (le_k rfl) nx1 F_cmyk1
theorem col_rg {x y z : Int} (hx : x % 100 = 0) (hy : y % 100 = 0) (hz : z % 100 = 0) : Fn w (d + 110) 439 [.str rgb, .lst ([x, y, z].map .dec), .str gray] (· = .lst ([bri (clp x) (clp y) (clp z)].map .dec)) := F_colG lk3 rfl (le_k rfl) nx3 (F_dgray3 (.clp hx) (.clp hy) (.clp hz))
theorem col_rr {x y z : Int} : Fn w (d + 110) 439 [.str rgb, .lst ([x, y, z].map .dec), .str rgb] (· = .lst ([clp x, clp y, clp z].map .dec)) := F_colR lk3 rfl (le_k rfl) nx3 (F_rgb3 (le_k rfl))
theorem col_rc {x y z : Int} : Fn w (d + 110) 439 [.str rgb, .lst ([x, y, z].map .dec), .str cmyk] (· = .lst ([clp (1000000 - clp x) - min (min (clp (1000000 - clp x)) (clp (1000000 - clp y))) (clp (1000000 - clp z)), clp (1000000 - clp y) - min (min (clp (1000000 - clp x)) (clp (1000000 - clp y))) (clp (1000000 - clp z)), clp (1000000 - clp z) - min (min (clp (1000000 - clp x)) (clp (1000000 - clp y))) (clp (1000000 - clp z)), min (min (clp (1000000 - clp x)) (clp (1000000 - clp y))) (clp (1000000 - clp z))].map .dec)) :=
  F_colC lk3 rfl (le_k rfl) nx3 F_cmyk3
theorem col_cg {x y z u : Int} (hx : x % 100 = 0) (hy : y % 100 = 0) (hz : z % 100 = 0) : Fn w (d + 110) 439 [.str cmyk, .lst ([x, y, z, u].map .dec), .str gray] (· = .lst ([clp (1000000 - (bri (clp x) (clp y) (clp z) + clp u))].map .dec)) := F_colG lk4 rfl (le_k rfl) nx4 (F_dgray4 (.clp hx) (.clp hy) (.clp hz))
theorem col_cr {x y z u : Int} : Fn w (d + 110) 439 [.str cmyk, .lst ([x, y, z, u].map .dec), .str rgb] (· = .lst ([clp (1000000 - (clp x + clp u)), clp (1000000 - (clp y + clp u)), clp (1000000 - (clp z + clp u))].map .dec)) := F_colR lk4 rfl (le_k rfl) nx4 F_rgb4
theorem col_cc {x y z u : Int} : Fn w (d + 110) 439 [.str cmyk, .lst ([x, y, z, u].map .dec), .str cmyk] (· = .lst ([clp x, clp y, clp z, clp u].map .dec)) := F_colC lk4 rfl (le_k rfl) nx4 (F_cmyk4 (le_k rfl))

variable {w : World} {d : Nat}
set_option maxRecDepth 100000
local macro_rules | `(tactic| kt_at_notin) => `(tactic| first
  | (with_reducible refine' Do2.mod ?zh; (case zh => decide))
  | (with_reducible refine' Do2.fdiv ?zh ?zk; (case zh => decide); (case zk => decide)))
/-- cut to 0 to 100 -/
noncomputable abbrev cut (t : Int) : Int := min (max t 0) 100
theorem F_lcut {t : Int} : Fn w (d + 10) 465 [.int t] (· = .int (cut t)) := by
  kpf_c
  refine' Ex.last (Ex1.retD ?e rfl)
  case e => kt_at_get
local macro_rules | `(tactic| kt_eqs) => `(tactic| with_reducible exact F_lcut)
theorem F_ltold {t : Int} : Fn w (d + 10) 472 [.int t, .int 4] (· = .tup [.int (T6 (t * 100)), .int (P6 (t * 100))]) := by
  kpf_c
  refine' Ex.cons (N' := fun ρ' => Lk ρ' (Str.ofString "worth") (.int (T6 (t * 100))) ∧ Lk ρ' (Str.ofString "scale") (.int (P6 (t * 100)))) (Ex1.whl (fun n ρ' => ∃ x y : Int, n = y.toNat ∧ 0 ≤ y ∧ y ≤ 6 ∧ dn x y.toNat = dn t (4 : Int).toNat ∧ Lk ρ' (Str.ofString "worth") (.int x) ∧ Lk ρ' (Str.ofString "scale") (.int y)) 4 ⟨t, 4, rfl, by decide, by decide, rfl, by kt_at_item, by kt_at_item⟩ ?turn) ?rest
  case rest =>
    intro ρ' h
    obtain ⟨h1, h2⟩ := h
    refine' Ex.last (Ex1.retD ?e rfl)
    case e => kt_at_get
  case turn =>
    intro n ρ' h
    obtain ⟨x, y, e, y0, y1, hd, h1, h2⟩ := h
    have stop : (x.fmod 10 ≠ 0 ∨ ¬ 0 < y) → Lk ρ' (Str.ofString "worth") (.int (T6 (t * 100))) ∧ Lk ρ' (Str.ofString "scale") (.int (P6 (t * 100))) := fun hs => by
      have e := made_tp (t := t) (p := 4) (by decide) (by decide) hd y0 hs
      rw [px4] at e
      rw [e.1, e.2]; exact ⟨h1, h2⟩
    refine' ⟨fun b => (b = true → 0 < y ∧ x.fmod 10 = 0) ∧ (b = false → (x.fmod 10 ≠ 0 ∨ ¬ 0 < y)), Ts.bool (TsB.and ?t1 ?f1 (fun hT => TsB.and ?t2 ?f2 (fun hT2 => ?nil))), ?body, ?out⟩
    case t1 => kt_at_in
    case f1 =>
      intro e
      have e : y ≤ 0 := by simpa using e.symm
      exact ⟨fun z => (by cases z), fun _ => .inr (by omega)⟩
    case t2 => kt_at_in
    case f2 =>
      intro e
      have e : x.fmod 10 ≠ 0 := by simpa using e.symm
      exact ⟨fun z => (by cases z), fun _ => .inl e⟩
    case nil =>
      intro pos c env m M news s whole Q E ok st se q
      have e1 : 0 < y := by simpa using hT.symm
      have e2 : x.fmod 10 = 0 := by simpa using hT2.symm
      exact TsB.and_nil pos c env m M news s whole Q E ok st se fun b h' tk' n' st' sb p => q b h' tk' n' st' sb (by subst p; exact ⟨fun _ => ⟨e1, e2⟩, fun z => (by cases z)⟩)
    case body =>
      intro hT
      obtain ⟨e1, e2⟩ := hT.1 rfl
      refine' Ex.consD (Ex1.set ?s1) (Ex.consD (Ex1.set ?s2) (Ex.nil ?n))
      case s1 => kt_at_get
      case s2 => kt_at_get
      case n => exact ⟨(y - 1).toNat, by omega, _, _, rfl, by omega, by omega, dn_turn hd e1 e2, by kt_at_item, by kt_at_item⟩
    case out => intro hT; exact stop (hT.2 rfl)
local macro_rules | `(tactic| kt_eqs) => `(tactic| with_reducible exact F_ltold)
/-- len of a row, tested -/
theorem Ts.len {kd : Str → Option NameKind} {ρ : List (Str × AV)} {e : PySem.Expr} {pos : Pos} {k : Int} {l : List AV} {n : Int} {t : PySem.Expr} {b : Bool} (h : Ev w d kd ρ e (· = .int n)) (h2 : Ev w d kd ρ t (· = .int k)) (hb : (n == k) = b) (k1 : behindInMarks .Eq t = false := by with_unfolding_all rfl) : Ts w d kd ρ (.Compare e [.Eq] [t] pos) (· = b) := Ts.to (Ts.cmp h h2 Do2.eqi k1) hb
local macro_rules | `(tactic| kt_at_get) => `(tactic| first | (with_reducible refine' Ev.callB ?zf ?za (Do.len ?zh ?zk); (case zf => kt_at_get); (case' za => kt_at_method); (case zh => exact rfl); (case zk => exact le_k rfl)) | fail)
theorem F_lgray1 {a : Int} : Fn w (d + 10) 479 [.lst [.int a]] (· = .int (100 * a)) := by
  kpf_c
  refine' Ex.ifrT (Ts.to (Ts.cmp ?a ?b Do2.eqi) ?k) (Ex.last (Ex1.retD ?e rfl))
  case' a => kt_at_get
  case b => kt_at_get
  case k => exact rfl
  case e => kt_at_get
theorem F_lgray3 {a b c : Int} : Fn w (d + 10) 479 [.lst [.int a, .int b, .int c]] (· = .int (30 * a + 59 * b + 11 * c)) := by
  kpf_c
  refine' Ex.ifrF (Ts.to (Ts.cmp ?a ?b Do2.eqi) ?k) (Ex.consD (Ex1.set ?s) (Ex.last (Ex1.retD (Ev.ifeT (Ts.to (Ts.cmp ?a2 ?b2 Do2.eqi) ?k2) ?e) rfl)))
  case' a => kt_at_get
  case b => kt_at_get
  case k => exact rfl
  case s => kt_at_get
  case' a2 => kt_at_get
  case b2 => kt_at_get
  case k2 => exact rfl
  case e => kt_at_get
theorem F_lgray4 {a b c k : Int} : Fn w (d + 10) 479 [.lst [.int a, .int b, .int c, .int k]] (· = .int (max (10000 - (30 * a + 59 * b + 11 * c) - 100 * k) 0)) := by
  kpf_c
  refine' Ex.ifrF (Ts.to (Ts.cmp ?a ?b Do2.eqi) ?k) (Ex.consD (Ex1.set ?s) (Ex.last (Ex1.retD (Ev.ifeF (Ts.to (Ts.cmp ?a2 ?b2 Do2.eqi) ?k2) ?e) rfl)))
  case' a => kt_at_get
  case b => kt_at_get
  case k => exact rfl
  case s => kt_at_get
  case' a2 => kt_at_get
  case b2 => kt_at_get
  case k2 => exact rfl
  case e => kt_at_get

variable {w : World} {d : Nat}
set_option maxRecDepth 100000
theorem F_lrgb1 {a : Int} : Fn w (d + 10) 484 [.lst [.int a]] (· = .lst ([100 * a, 100 * a, 100 * a].map .int)) := by
  kpf_c
  refine' Ex.ifrT (Ts.to (Ts.cmp ?a ?b Do2.eqi) ?k) (Ex.last (Ex1.retD (Ev.to (Ev.binD (Ev.to ?e ?ke) ?e2 (Do2.mulL (ns := [100 * a]) (x := 3) ?h0 ?h1 ?h2)) ?kk) rfl))
  case' a => kt_at_get
  case b => kt_at_get
  case k => exact rfl
  case' e => kt_at_get
  case ke => rfl
  case e2 => kt_at_get
  case h0 => decide
  case h1 => exact le_k rfl
  case h2 => decide
  case kk => rfl
theorem F_lrgb3 {a b c : Int} : Fn w (d + 10) 484 [.lst [.int a, .int b, .int c]] (· = .lst ([100 * a, 100 * b, 100 * c].map .int)) := by
  kpf_c
  refine' Ex.ifrF (Ts.to (Ts.cmp ?a ?b Do2.eqi) ?k) (Ex.ifrT (Ts.to (Ts.cmp ?a2 ?b2 Do2.eqi) ?k2) (Ex.last (Ex1.retD (Ev.to (Ev.comp (l := [a, b, c]) (g := .int) (f := fun v => .int (100 * v)) (Ev.to ?i ?ki) ?sc ?hz ?hb) ?kk) rfl)))
  case' a => kt_at_get
  case b => kt_at_get
  case k => exact rfl
  case' a2 => kt_at_get
  case b2 => kt_at_get
  case k2 => exact rfl
  case' i => kt_at_get
  case ki => rfl
  case sc => kernel_rfl
  case hz => exact le_k rfl
  case hb => intro v hv; kt_at_get
  case kk => rfl
theorem F_lrgb4 {a b c k : Int} : Fn w (d + 10) 484 [.lst [.int a, .int b, .int c, .int k]] (· = .lst ([100 * max (100 - a - k) 0, 100 * max (100 - b - k) 0, 100 * max (100 - c - k) 0].map .int)) := by
  kpf_c
  refine' Ex.ifrF (Ts.to (Ts.cmp ?a ?b Do2.eqi) ?k) (Ex.ifrF (Ts.to (Ts.cmp ?a2 ?b2 Do2.eqi) ?k2) (Ex.last (Ex1.retD (Ev.to (Ev.comp1 (l := [a, b, c]) (g := .int) (f := fun v => .int (100 * max (100 - v - k) 0)) (Ev.slice ?o Pt.none (Pt.some (k := 3) ?e) ?r ?z) ?sc ?hz ?hy ?k3 ?k4 ?hb ?cl) ?kk) rfl)))
  case' a => kt_at_get
  case b => kt_at_get
  case k => exact rfl
  case' a2 => kt_at_get
  case b2 => kt_at_get
  case k2 => exact rfl
  case hy => exact .hd
  case o => kt_at_get
  case e => kt_at_get
  case r => exact rfl
  case z => exact le_k rfl
  case sc => kernel_rfl
  case hz => exact le_k rfl
  case k3 => kernel_rfl
  case k4 => kernel_rfl
  case hb => intro v hv; kt_at_get
  case cl => exact fun env q h => closure_one h (by kernel_rfl)
  case kk => rfl
theorem F_lcmyk4 {a b c k : Int} : Fn w (d + 10) 489 [.lst [.int a, .int b, .int c, .int k]] (· = .lst ([100 * a, 100 * b, 100 * c, 100 * k].map .int)) := by
  kpf_c
  refine' Ex.ifrT (Ts.to (Ts.cmp ?a2 ?b2 Do2.eqi) ?k2) (Ex.last (Ex1.retD (Ev.to (Ev.comp (l := [a, b, c, k]) (g := .int) (f := fun v => .int (100 * v)) (Ev.to ?i ?ki) ?sc ?hz ?hb) ?kk) rfl))
  case' a2 => kt_at_get
  case b2 => kt_at_get
  case k2 => exact rfl
  case' i => kt_at_get
  case ki => rfl
  case sc => kernel_rfl
  case hz => exact le_k rfl
  case hb => intro v hv; kt_at_get
  case kk => rfl
theorem F_lcmyk1 {a : Int} : Fn w (d + 10) 489 [.lst [.int a]] (· = .lst ([0, 0, 0, 10000 - 100 * a].map .int)) := by
  kpf_c
  refine' Ex.ifrF (Ts.to (Ts.cmp ?a ?b Do2.eqi) ?k) (Ex.ifrT (Ts.to (Ts.cmp ?a2 ?b2 Do2.eqi) ?k2) (Ex.last (Ex1.retD (Ev.to ?e ?kk) rfl)))
  case' a => kt_at_get
  case b => kt_at_get
  case k => exact rfl
  case' a2 => kt_at_get
  case b2 => kt_at_get
  case k2 => exact rfl
  case' e => kt_at_get
  case kk => rfl
theorem F_lcmyk3 {a b c : Int} : Fn w (d + 10) 489 [.lst [.int a, .int b, .int c]] (· = .lst ([100 * (max (max a b) c - a), 100 * (max (max a b) c - b), 100 * (max (max a b) c - c), 10000 - 100 * max (max a b) c].map .int)) := by
  generalize hp : max (max a b) c = p
  have hm : ∀ k : Int, k ∈ [a, b, c] → (∀ x ∈ [a, b, c], x ≤ k) → k = p := by
    intro k hk h
    simp only [List.mem_cons, List.not_mem_nil, or_false, forall_eq_or_imp, forall_eq] at hk h
    omega
  kpf_c
  refine' Ex.ifrF (Ts.to (Ts.cmp ?a ?b Do2.eqi) ?k) (Ex.ifrF (Ts.to (Ts.cmp ?a2 ?b2 Do2.eqi) ?k2) (Ex.consD (Ex1.cell (Ev.imp (Ev.callB ?zf (Evs.consD (Ev.to ?za ?zka) Evs.nil) (Do.maxL (ns := [a, b, c]) ?h0)) ?km)) (Ex.last (Ex1.retD (Ev.to (Ev.binD (Ev.comp1 (l := [a, b, c]) (g := .int) (f := fun v => .int (100 * (p - v))) (Ev.to ?i ?ki) ?sc ?hz ?hy ?k3 ?k4 ?hb ?cl) ?e2 (Do2.addL ?ha)) ?kk) rfl))))
  case' a => kt_at_get
  case b => kt_at_get
  case k => exact rfl
  case' a2 => kt_at_get
  case b2 => kt_at_get
  case k2 => exact rfl
  case zf => kt_at_get
  case' za => kt_at_get
  case zka => rfl
  case h0 => exact Nat.zero_lt_succ _
  case km =>
    rintro _ ⟨k, rfl, h1, h2⟩
    exact congrArg AV.int (hm k h1 h2)
  case' i => kt_at_get
  case ki => rfl
  case sc => kernel_rfl
  case hz => exact le_k rfl
  case hy => exact .hd
  case k3 => kernel_rfl
  case k4 => kernel_rfl
  case hb => intro v hv; kt_at_get
  case cl => exact fun env q h => closure_one h (by kernel_rfl)
  case e2 => kt_at_get
  case ha => exact le_k rfl
  case kk => rfl

variable {w : World} {d : Nat}
set_option maxRecDepth 100000
theorem At.base {n : Str} {k : Int} : At w (.sp n k) (Str.ofString "base") .none := by
  intro c m M news s v Q E X st i q
  cases i with | sp g1 g2 =>
  exact get_own (attr := none) st.F X (InstAt.of_news st.N (st.mem g1) (st.mem g2)) (by kernel_rfl) (by kernel_rfl) (by kernel_rfl) (by kernel_rfl) (by rfl) (by rfl) (q _ _ .none)
theorem At.table {n : Str} {k : Int} : At w (.sp n k) (Str.ofString "table") (.bts #[]) := by
  intro c m M news s v Q E X st i q
  cases i with | sp g1 g2 =>
  exact get_own (attr := none) st.F X (InstAt.of_news st.N (st.mem g1) (st.mem g2)) (by kernel_rfl) (by kernel_rfl) (by kernel_rfl) (by kernel_rfl) (by rfl) (by rfl) (q _ _ (.bts _ _))
theorem At.most {n : Str} {k : Int} : At w (.sp n k) (Str.ofString "most") (.int 0) := by
  intro c m M news s v Q E X st i q
  cases i with | sp g1 g2 =>
  exact get_own (attr := none) st.F X (InstAt.of_news st.N (st.mem g1) (st.mem g2)) (by kernel_rfl) (by kernel_rfl) (by kernel_rfl) (by kernel_rfl) (by rfl) (by rfl) (q _ _ (.int _ _))
theorem At.tint {n : Str} {k : Int} : At w (.sp n k) (Str.ofString "tint") .none := by
  intro c m M news s v Q E X st i q
  cases i with | sp g1 g2 =>
  exact get_own (attr := none) st.F X (InstAt.of_news st.N (st.mem g1) (st.mem g2)) (by kernel_rfl) (by kernel_rfl) (by kernel_rfl) (by kernel_rfl) (by rfl) (by rfl) (q _ _ .none)
theorem At.inks {n : Str} {k : Int} : At w (.sp n k) (Str.ofString "inks") (.val (.ref 353)) := by
  intro c m M news s v Q E X st i q
  cases i with | sp g1 g2 =>
  exact get_own (attr := none) st.F X (InstAt.of_news st.N (st.mem g1) (st.mem g2)) (by kernel_rfl) (by kernel_rfl) (by kernel_rfl) (by kernel_rfl) (by rfl) (by rfl) (q _ _ (.val _))
theorem Mt.sp {n : Str} {k : Int} : Mt w (.sp n k) (Str.ofString "told") 368 := by
  intro c m M news s v pl Q E X st i q
  cases i with | sp g1 g2 =>
  exact method_inst st.F X (InstAt.of_news st.N (st.mem g1) (st.mem g2)) (by kernel_rfl) (by kernel_rfl) (by kernel_rfl) (by rfl) q
local macro_rules | `(tactic| kt_len) => `(tactic| first | with_reducible exact At.base | with_reducible exact At.table | with_reducible exact At.most | with_reducible exact At.tint | with_reducible exact At.inks)
local macro_rules | `(tactic| kt_ors) => `(tactic| with_reducible exact Mt.sp)
noncomputable abbrev nul : Str := Str.ofString "null"
theorem F_kindN : Fn w (d + 10) 326 [.none] (· = .str nul) := by
  kpf_c
  refine' Ex.ifrT ?t1 (Ex.last (Ex1.retD ?e rfl))
  case t1 => kt_at_in
  case e => kt_at_get
theorem F_plainN : Fn w (d + 10) 340 [.str nul, .none] (· = .tup [.str nul]) := by
  kpf_c
  refine' Ex.ifrT (Ts.to (Ts.cmp ?a ?b Do2.eqs) ?k) (Ex.last (Ex1.retD ?e rfl))
  case a => kt_at_get
  case b => kt_at_get
  case k => decide +kernel
  case e => kt_at_get
local macro_rules | `(tactic| kt_eqs) => `(tactic| first | with_reducible exact F_kindN | with_reducible exact F_plainN)
theorem F_toldN : Fn w (d + 20) 345 [.none] (· = .tup [.str nul]) := by
  kpf_c
  refine' Ex.consD (Ex1.set ?s) (Ex.ifrF (Ts.to (Ts.cmp ?a ?b Do2.eqs) ?k) (Ex.ifrF (Ts.to (Ts.cmp ?a2 ?b2 Do2.eqs) ?k2) (Ex.ifrF (Ts.to (Ts.cmp ?a3 ?b3 Do2.eqs) ?k3) (Ex.last (Ex1.retD ?e rfl)))))
  case s => kt_at_get
  case a => kt_at_get
  case b => kt_at_get
  case k => decide +kernel
  case a2 => kt_at_get
  case b2 => kt_at_get
  case k2 => decide +kernel
  case a3 => kt_at_get
  case b3 => kt_at_get
  case k3 => decide +kernel
  case e => kt_at_get
local macro_rules | `(tactic| kt_eqs) => `(tactic| with_reducible exact F_toldN)
theorem F_stold {n : Str} {k : Int} : Fn w (d + 30) 368 [.sp n k] (· = .tup [.str n, .int k, .none, .bts #[], .int 0, .tup [.str nul], .val (.ref 353)]) := by
  kpf_c
  refine' Ex.consD (Ex1.set (Ev.ifeT ?t ?s)) (Ex.last (Ex1.retD ?e rfl))
  case t => kt_at_in
  case s => kt_at_get
  case e => kt_at_get
local macro_rules | `(tactic| kt_eqs) => `(tactic| with_reducible exact F_stold)
open PySem.SeqAt in
theorem Do2.neSp {n : Str} {k : Int} : Do2 w d (.tup [.str n, .int k, .none, .bts #[], .int 0, .tup [.str nul], .val (.ref 353)]) (.tup [.str n, .int k, .none, .bts #[], .int 0, .tup [.str nul], .tup []]) (fun u v => compareOp .NotEq u v) (· = .bool false) := by
  intro c m M news s u v Q E ok st hu hv q
  cases hu with | tup h1 s1 =>
  cases hv with | tup h2 s2 =>
  have hun := ok.hu
  have X := ok.X.keeps st.F.keep
  have hct : s.heap.IsTuple 353 #[] := by
    refine ⟨_, X 353 (tupO []) (by kernel_rfl), rfl, _, rfl⟩
  have z := (RcNeAt.tuples (A := c.A) (e := fun _ => true) (News.isTup st.N (st.mem h1)) (News.isTup st.N (st.mem h2)) (by show c.un < cLine; omega) fun j k1 k2 => by
    obtain ⟨b, hb, ib⟩ := s1.getV j (v := _) (by rw [List.getElem?_eq_getElem (by simpa using k1)])
    obtain ⟨b', hb', ib'⟩ := s2.getV j (v := _) (by rw [List.getElem?_eq_getElem (by simpa using k2)])
    by_cases hj : j < 6
    · have e : b = b' ∧ plainA 20 b = true := by
        match j, hj with
        | 0, _ => cases hb; cases hb'; exact ⟨rfl, rfl⟩
        | 1, _ => cases hb; cases hb'; exact ⟨rfl, rfl⟩
        | 2, _ => cases hb; cases hb'; exact ⟨rfl, rfl⟩
        | 3, _ => cases hb; cases hb'; exact ⟨rfl, rfl⟩
        | 4, _ => cases hb; cases hb'; exact ⟨rfl, rfl⟩
        | 5, _ => cases hb; cases hb'; exact ⟨rfl, rfl⟩
      obtain ⟨rfl, hp⟩ := e
      exact eq_same st 20 hp (by show c.un + 1 + 20 < cLine; omega) ib ib'
    · have hl : j < 7 := by have := s1.length; simp only [List.length_cons, List.length_nil, List.size_toArray] at this k1; omega
      obtain rfl : j = 6 := by omega
      cases hb; cases hb'
      have e1 : ∀ x, Is w news x (.val (.ref 353)) → x = .ref 353 := fun x h => by cases h; rfl
      rw [List.getElem_toArray, List.getElem_toArray, e1 _ ib]
      have key : ∀ x, Is w news x (.tup []) → EqAt c.A.in1 s (.ref 353) x true := fun x i => by
        cases i with | tup h3 s3 =>
        cases s3
        exact eqAt_tup hct (News.isTup st.N (st.mem h3)) (by show c.un + 1 < cLine; omega) rfl fun j h1 _ => absurd h1 (Nat.not_lt_zero _)
      exact key _ ib')
  refine z Pr w E Q ?_
  rw [List.size_toArray, List.size_toArray, s1.length, s2.length]
  exact q _ _ _ _ news st Sub.rfl' rfl (.bool _)

variable {w : World} {d : Nat}
set_option maxRecDepth 100000
theorem Do.str3 : Do w d [.int 3] (fun vs => PySem.call (.type "str") vs) (· = .str (Str.ofString "3")) := by
  intro c m M news s vs Q E ok st al q
  obtain ⟨u, rfl, i⟩ := al.inv1
  cases i
  exact str_of_int_fit (N := 10) (by decide) (by decide) fun _ => q _ _ _ _ news st Sub.rfl' rfl (.str _ _)
theorem Do2.addS {x y : Str} (h : x.length + y.length ≤ sizeLine) : Do2 w d (.str x) (.str y) (fun u v => binaryOp .Add u v) (fun a => ∃ z, a = .str z) := by
  intro c m M news s u v Q E ok st hu hv q
  cases hu; cases hv
  exact PyProof.Rows.add_str (fun t' tk => q _ _ _ _ news st Sub.rfl' ⟨_, rfl⟩ (.str _ _)) h
open PySem.SeqAt in
theorem Do2.neN {l k : List AV} (h : l.length ≠ k.length) : Do2 w d (.lst l) (.lst k) (fun u v => compareOp .NotEq u v) (· = .bool true) := by
  intro c m M news s u v Q E ok st hu hv q
  cases hu with | lst h1 s1 =>
  cases hv with | lst h2 s2 =>
  have hun := ok.hu
  exact RcNeAt.lists_lengths (A := c.A) (st.list h1) (st.list h2) (by rw [List.size_toArray, List.size_toArray, s1.length, s2.length]; simpa using h) (by show c.un < cLine; omega) Pr w E Q (q _ _ _ _ news st Sub.rfl' rfl (.bool _))
theorem F_kindI {i : Int} : Fn w (d + 10) 326 [.int i] (· = .str (Str.ofString "int")) := by
  kpf_c
  refine' Ex.ifrF ?t1 (Ex.ifrF ?t2 (Ex.ifrT ?t3 (Ex.last (Ex1.retD ?e rfl))))
  case t1 => kt_at_in
  case t2 => kt_at_in
  case t3 => kt_at_in
  case e => kt_at_get
local macro_rules | `(tactic| kt_eqs) => `(tactic| with_reducible exact F_kindI)
theorem F_isnumI {i : Int} : Fn w (d + 15) 333 [.int i] (· = .bool true) := by
  kpf_c
  refine' Ex.last (Ex1.ret (Ev.cmp ?a ?b ?o) ?k)
  case a => kt_at_get
  case b => kt_at_get
  case o => kt_at_notin
  case k => rintro _ rfl; exact congrArg AV.bool (by decide +kernel)
theorem F_isnumN : Fn w (d + 15) 333 [.none] (· = .bool false) := by
  kpf_c
  refine' Ex.last (Ex1.ret (Ev.cmp ?a ?b ?o) ?k)
  case a => kt_at_get
  case b => kt_at_get
  case o => kt_at_notin
  case k => rintro _ rfl; exact congrArg AV.bool (by decide +kernel)
local macro_rules | `(tactic| kt_eqs) => `(tactic| first | with_reducible exact F_isnumI | with_reducible exact F_isnumN)
noncomputable def isNo : AV → Bool
  | .none => true
  | _ => false
local macro_rules | `(tactic| kpf_c) => `(tactic| (refine' FnX.of ?ho ?hcd ?hb ?hx ?hnx ?hnc ?hco ?hgen ?hkd ?body; (case ho => k_is); (case hcd => k_is); (case hb => (intro s vs h; first | (obtain ⟨a, e⟩ := len1 h; subst e; exact BindsTo.of_eq rfl) | (obtain ⟨a, b, e⟩ := len2 h; subst e; exact BindsTo.of_eq rfl) | (obtain ⟨a, b, c, e⟩ := len3 h; subst e; exact BindsTo.of_eq rfl))); (case hx => kernel_rfl); (case hnx => decide +kernel); (case hnc => kernel_rfl); (case hco => rfl); (case hgen => rfl); (case hkd => rfl); (dsimp only [List.map, List.zip, List.zipWith])))
theorem X_cut4 {a b c e : AV} : FnX w (d + 60) 401 [.sp rgb 3, .lst [a, b, c, e]] := by
  kpf_c
  refine' ExX.ifT (Ts.bool (TsB.or_t (Ts.to (Ts.cmp ?a ?b Do2.nei) ?k))) (ExX.raise ?z ?f (Ev.binD (Ev.callT ?g ?h Do.str3) ?i (Do2.addS ?j)))
  case' a => kt_at_get
  case b => kt_at_get
  case k => exact rfl
  case z => omega
  case f => kt_at_get
  case g => kt_at_get
  case h => kt_at_method
  case i => kt_at_get
  case j => exact Nat.le_of_ble_eq_true (by kernel_rfl)
theorem X_cutN : FnX w (d + 60) 401 [.sp rgb 3, .lst [.none, .int 0, .int 0]] := by
  kpf_c
  refine' ExX.ifT (Ts.bool (TsB.or_f (Ts.to (Ts.cmp ?a ?b Do2.nei) ?k) (TsB.or_t (Ts.cmp (Ev.to (Ev.compT (l := [AV.none, .int 0, .int 0]) (g := id) (f := id) (t := isNo) (Ev.to ?i0 ?ki) ?sc ?hz ?ct ?ce) ?k2) ?b2 (Do2.neN (l := [.none]) (k := []) ?ne))))) (ExX.raise ?z ?f (Ev.binD (Ev.callT ?g ?h Do.str3) ?i (Do2.addS ?j)))
  case' a => kt_at_get
  case b => kt_at_get
  case k => exact rfl
  case' i0 => kt_at_get
  case ki => rfl
  case sc => kernel_rfl
  case hz => exact le_k rfl
  case ct =>
    intro x hx
    simp only [List.mem_cons, List.not_mem_nil, or_false] at hx
    rcases hx with rfl | rfl | rfl
    · exact Ts.not (b := false) (by dsimp only [id]; kt_at_in)
    · exact Ts.not (b := true) (by dsimp only [id]; kt_at_in)
    · exact Ts.not (b := true) (by dsimp only [id]; kt_at_in)
  case ce =>
    intro x hx e
    kt_at_get
  case k2 => rfl
  case b2 => kt_at_get
  case ne => exact Nat.succ_ne_zero 0
  case z => omega
  case f => kt_at_get
  case g => kt_at_get
  case h => kt_at_method
  case i => kt_at_get
  case j => exact Nat.le_of_ble_eq_true (by kernel_rfl)
theorem X_count2 : FnX w (d + 60) 396 [.int 2] := by
  kpf_c
  refine' ExX.cons (N := fun _ => True) (Ex1.forD (l := spaces3) (Ev.call0 ?f ?k F_spaces) ?hx ?hy ?hf) (fun _ _ => ExX.raise ?z ?g ?h)
  case f => kt_at_get
  case k => kernel_rfl
  case hx => kernel_rfl
  case hy => kernel_rfl
  case hf =>
    dsimp only [spaces3, Fors, List.map, List.cons_append, List.nil_append]
    refine' Ex.ifrF (Ts.to (Ts.cmp ?a ?b Do2.eqi) ?k) (Ex.nil (Ex.ifrF (Ts.to (Ts.cmp ?a2 ?b2 Do2.eqi) ?k2) (Ex.nil (Ex.ifrF (Ts.to (Ts.cmp ?a3 ?b3 Do2.eqi) ?k3) (Ex.nil trivial)))))
    case a => kt_at_get
    case b => kt_at_get
    case k => decide
    case a2 => kt_at_get
    case b2 => kt_at_get
    case k2 => decide
    case a3 => kt_at_get
    case b3 => kt_at_get
    case k3 => decide
  case z => omega
  case g => exact Ev.glob (by kernel_rfl) (by k_is)
  case h => exact Ev.imp Ev.cstr fun _ e => ⟨_, e⟩
theorem X_col {l : List AV} {a : AV} (H : FnX w (d + 109) 401 [.sp rgb 3, .lst l]) : FnX w (d + 110) 439 [.str rgb, .lst l, a] := by
  kpf_c
  refine' ExX.set (EvX.call ?f ?k (Evs.consD (Ev.call ?zf ?zk ?za (F_space lk3)) (Evs.consD ?b Evs.nil)) H)
  case f => kt_at_get
  case k => kernel_rfl
  case zf => kt_at_get
  case zk => kernel_rfl
  case za => kt_at_method
  case b => kt_at_get
theorem X_col4 {a b c e : AV} : FnX w (d + 110) 439 [.str rgb, .lst [a, b, c, e], .str gray] := X_col X_cut4
theorem X_colN : FnX w (d + 110) 439 [.str rgb, .lst [.none, .int 0, .int 0], .str gray] := X_col X_cutN

/-- an exception of class 59 on its way out of a body, caught by this def's handler, which sets a name to a number -/
theorem try_paint {w : World} {c : Ctx} {m : Str → Option Value} {news : Led} {s : Shared} {Q : Flow → Shared → Prop} {E : Value → Shared → Prop} {b : List Stmt} {x z : Str} {np hp pz pa ps pos : Pos} {k : Int} {kk : Nat} (hA : c.A = c.A₀.deeper (envOf c.cn c.cs c.L c.a c.ccd)) (hE : c.env = envOf c.cn c.cs c.L c.a c.ccd)
    (hk : c.cs.kind = .function) (K : Below c.A₀ c.base c.outer c.h₀) (XB : (hd.heap_39 w.params).In c.base) (TB : Top hd.view_39 Lo c.mean c.mg c.mb c.base) (D : KtsDicts (c.outer.filterMap (·.frame)) c.h₀)
    (hx : c.cs.names.lookup x = some .globalImplicit) (ex : nsIn (hd.heap_39 w.params) mainGlobals x = some (some (.ref 59))) (hdb : (x == ("__debug__" : Str)) = false) (hz : c.cs.names.lookup z = some .local)
    (ow : PassesOwn (model Pr w) c.A c.env E) (ow' : ∀ e, PassesOwnAt (model Pr w) (c.A.mark (some (.ref e))) c.A c.env E)
    (hb : ∀ (Q' : Flow → Shared → Prop) (E' : Value → Shared → Prop), (∀ e h' tk' M', Flown c m M' news e h' → E' (.ref e) { s with heap := h', toks := tk' }) → wpAny (model Pr w) c.A (execs b c.env) Q' E' s)
    (q : ∀ g' h' tk' t, KtsTurn (c.outer.filterMap (·.frame)) c.h₀ g' → Below c.A₀ c.base c.outer g' → (hd.heap_39 w.params).In g' → Top hd.view_39 Lo c.mean c.mg c.mb g' → Fr g' c.L h' (fun y => if y = z then some (.int k t) else m y) → News g' c.L h' news → Q .next { s with heap := h', toks := tk' }) :
    wpAny (model Pr w) c.A (exec (.Try b [.ExceptHandler (some (.Name x np)) none [.Assign [.Name z pz] (.Constant (.int k) kk pa) ps] hp] [] [] pos) c.env) Q E s := by
  refine wpAny_Try_except (hb _ _ fun e h' tk' M' fl => ?_)
  obtain ⟨G, F, R, U, _⟩ := fl
  have ow2 := ow' e
  rw [hA, hE] at ow2 ⊢
  rw [hE] at R
  refine caught_mine R F K U XB TB D ex (paint59 w) (fun h2 g' T F2 N2 K2 X2 P2 D2 => ?_) hk hx hdb ow2
  exact wpAny_execs_cons (wpAny_Assign_Name (wpAny_Constant_int (wpAny_storeName_local hz F2.ns (fun h3 hn hs => wpAny_execs_nil (q g' h3 _ _ T K2 X2 P2 (F2.set hn hs) (N2.set hs))) (by show (c.cs.kind == .class || (c.cs.kind == .module && c.L != mainGlobals)) = false; rw [hk]; rfl))))
variable {w : World} {d : Nat}
set_option maxRecDepth 100000
theorem run_refused {c : Ctx} {m : Str → Option Value} {M news : Led} {s : Shared} {vs : List Value} {Q E : Value → Shared → Prop} {i : Int} {a : AV} (hout : c.outer = []) (hbase : c.base = c.h₀) (ok : c.Ok w (d + 130)) (st : St c m M news s.heap) (al : Alls w news vs [.int i, a])
    (hX : (i = 0 ∧ FnX w (d + 120) 439 [.str rgb, a, .str gray]) ∨ (i = 1 ∧ FnX w (d + 120) 396 [.int 2]))
    (q : ∀ h' tk', St c m M news h' → Q (.bool true) { s with heap := h', toks := tk' }) : wpAny (model Pr w) c.A (PySem.call (.ref 496) vs) Q E s := by
  refine wpAny_call ?_
  obtain ⟨v0, v1, rfl, i0, i1⟩ := al.inv2
  obtain ⟨dp, un, gd, cn, cs, L, a₀, ccd, cl, outer, A₀, base, h₀, mean, mg, mb⟩ := c
  dsimp only at hout hbase
  subst hout
  subst hbase
  refine' code_defSR (f := 496) (binds := [(Str.ofString "way", v0), (Str.ofString "numbers", v1)]) ok.B st.F ok.X (news_sub' st.N) ok.T rfl rfl ok.hk ?ho ?hcd (Nat.lt_of_le_of_lt (Nat.le_add_right _ _) ok.hd) ?hb ?hloc ?body ?hco ?hgen ?hkd ?hcell
  case ho => k_is
  case hcd => k_is
  case hb => exact BindsTo.of_eq rfl
  case hloc => exact locs rfl
  case hco => rfl
  case hgen => rfl
  case hkd => rfl
  case hcell => decide
  intro g L' h₁ FG F' N' B' X' T' D' hg
  generalize hsc : Scope.mk _ _ _ _ _ = sc
  have k0 : sc.names.lookup (Str.ofString "heard") = some .local := by rw [← hsc]; kernel_rfl
  have k1 : sc.names.lookup (Str.ofString "way") = some .local := by rw [← hsc]; kernel_rfl
  have k2 : sc.names.lookup (Str.ofString "numbers") = some .local := by rw [← hsc]; kernel_rfl
  have k3 : sc.names.lookup (Str.ofString "device_colour") = some .globalImplicit := by rw [← hsc]; kernel_rfl
  have k4 : sc.names.lookup (Str.ofString "device_of_count") = some .globalImplicit := by rw [← hsc]; kernel_rfl
  have k5 : sc.names.lookup (Str.ofString "PaintFault") = some .globalImplicit := by rw [← hsc]; kernel_rfl
  have kf : sc.kind = .function := by rw [← hsc]
  have nocell : ∀ x, sc.names.lookup x ≠ some .cell := fun x e => by
    have := mem_of_lookup e
    rw [← hsc] at this
    simp only [List.mem_cons, Prod.mk.injEq, reduceCtorEq, and_false, List.not_mem_nil, or_self] at this
  clear hsc
  have hint : ∀ {L a ccd cl}, interactive (envX (Str.ofString "_law_refused") sc L a ccd cl) = false := fun {L a ccd cl} => by
    show (sc.kind == .module && _) = false
    rw [kf]; rfl
  let c' : Ctx := { dp := dp + 1, un := un + 3, gd := gd, cn := Str.ofString "_law_refused", cs := sc, L := L', a := 496, ccd := .ref 495, cl := [], outer := [envX cn cs L a₀ ccd cl], A₀ := ktrTop dp un gd cn cs L a₀ ccd cl [], base := base, h₀ := g, mean := mean, mg := mg, mb := mb }
  have ok' : c'.Ok w (d + 129) := ⟨B', X', T', kf, by have := ok.hd; dsimp only at this; show dp + 1 + (d + 129) < _; omega, by have := ok.hu; dsimp only at this; show un + 3 + 8 * (d + 129) + 100 < _; omega⟩
  have st' : St c' _ [] news h₁ := ⟨F', N', fun p hp y hy => nomatch hy⟩
  have lo' : Loc w (fun x => sc.names.lookup x) [(Str.ofString "numbers", a), (Str.ofString "way", .int i)] c' (fun y => List.lookup y [(Str.ofString "numbers", v1), (Str.ofString "way", v0)]) [] news := by
    refine ⟨rfl, fun x b hl => ?_, fun x y z e1 e2 => (nomatch e1), fun x z e => (nomatch e), fun x k => absurd k (nocell x)⟩
    cases hl with
    | hd => exact .inl ⟨k2, v1, rfl, i1⟩
    | tl hn hl =>
      cases hl with
      | hd => exact .inl ⟨k1, v0, rfl, i0⟩
      | tl hn hl => cases hl
  refine wpAny_execs_cons (Ex1.set (w := w) (d := d + 129) (kd := fun x => sc.names.lookup x) (ρ := [(Str.ofString "numbers", a), (Str.ofString "way", .int i)]) (R := fun _ => False) Ev.cint k0 (by intro _; with_unfolding_all rfl) c' _ [] news _ _ _ ok' PassesOwn.leaving st' lo' (fun ρ' m2 M2 h2 tk2 n2 st2 lo2 mv2 sb2 hρ => ?_) (fun _ _ _ _ _ _ _ _ _ f _ => f.elim))
  subst hρ
  dsimp only
  refine wpAny_execs_cons (try_paint (c := c') (m := m2) (news := n2) rfl rfl kf B' ok.X ok.T D' k5 (by k_is) (by decide +kernel) k0 PassesOwn.leaving (fun e => ?ow) ?hb ?q)
  case ow => passes_own
  case hb =>
    intro Q' E' hE
    refine wpAny_execs_cons (wpAny_If (Ts.cmp (w := w) (d := d + 129) (Ev.name (kd := fun x => sc.names.lookup x) (.tl (by decide +kernel) (.tl (by decide +kernel) .hd))) Ev.cint Do2.eqi (by with_unfolding_all rfl) c' c'.env m2 M2 n2 _ _ _ ok' st2 (lo2.sees kf) fun b h3 tk3 n3 st3 sb3 p => ?_))
    rcases hX with ⟨rfl, hX⟩ | ⟨rfl, hX⟩
    · obtain rfl : b = true := p
      refine (if_pos rfl).mpr (wpAny_execs_cons (wpAny_Expr (EvX.call (w := w) (d := d + 120) (kd := fun x => sc.names.lookup x) (Ev.glob k3 (by k_is)) (by kernel_rfl) (Evs.consD Ev.cstr (Evs.consD (Ev.name (.tl (by decide +kernel) .hd)) (Evs.consD Ev.cstr Evs.nil))) hX (by intro _; with_unfolding_all rfl) (by intro _; with_unfolding_all rfl) c' c'.env m2 M2 n3 _ _ _ (ok'.le (by omega)) st3 ((lo2.up sb3).sees kf) fun e h4 tk4 fl => hE e h4 tk4 M2 (fl.sub sb3)) hint))
    · obtain rfl : b = false := p
      refine (if_neg (by simp)).mpr (wpAny_execs_cons (wpAny_Expr (EvX.call (w := w) (d := d + 120) (kd := fun x => sc.names.lookup x) (Ev.glob k4 (by k_is)) (by kernel_rfl) (Evs.consD Ev.cint Evs.nil) hX (by intro _; with_unfolding_all rfl) (by intro _; with_unfolding_all rfl) c' c'.env m2 M2 n3 _ _ _ (ok'.le (by omega)) st3 ((lo2.up sb3).sees kf) fun e h4 tk4 fl => hE e h4 tk4 M2 (fl.sub sb3)) hint))
  case q =>
    intro g' h' tk' t TT K2 X2 T2 F2 N2
    let c2 : Ctx := { c' with h₀ := g' }
    have ok2 : c2.Ok w (d + 129) := ⟨K2, X2, T2, kf, ok'.hd, ok'.hu⟩
    have st3 : St c2 _ [] n2 h' := ⟨F2, N2, fun p hp y hy => nomatch hy⟩
    have lo3 : Loc w (fun x => sc.names.lookup x) [(Str.ofString "heard", .int 1)] c2 (fun y => if y = Str.ofString "heard" then some (.int 1 t) else m2 y) [] n2 := by
      refine ⟨rfl, fun x b hl => ?_, fun x y z e1 e2 => (nomatch e1), fun x z e => (nomatch e), fun x k => absurd k (nocell x)⟩
      cases hl with
      | hd => exact .inl ⟨k0, _, if_pos rfl, .int _ _⟩
      | tl hn hl => cases hl
    dsimp only
    refine wpAny_execs_cons (wpAny_Return_some (Ev.cmp (w := w) (d := d + 129) (kd := fun x => sc.names.lookup x) (Ev.name .hd) Ev.cint Do2.eqi (by with_unfolding_all rfl) c2 c2.env _ [] n2 _ _ _ ok2 st3 (lo3.sees kf) fun v a' h3 tk3 n3 st4 sb4 p is => ?_))
    subst p
    cases is
    refine leaveS0_ st4.F st4.N TT fun F4 N4 => q h3 tk3 ⟨F4, fun y hy => ?_, st.A⟩
    rcases List.mem_append.mp hy with hy | hy
    · have hN := st.N y (List.mem_append_left _ hy)
      have e1 := hg _ _ hN.1 fun hm => by
        obtain ⟨z, hz, e⟩ := List.mem_map.mp hm
        exact st.A z hz y hy e
      refine ⟨st4.F.keep _ _ (TT.other _ _ e1 fun hm => ?_), hN.2⟩
      exact hN.2.1 (List.mem_singleton.mp hm)
    · exact N4 y (sb4 _ (sb2 _ hy))

variable {w : World} {d : Nat}
set_option maxRecDepth 100000
open PyProof.Rows.LCg PyProof.Rows.LCt
theorem run_pen {c : Ctx} {m : Str → Option Value} {M news : Led} {s : Shared} {Q E : Value → Shared → Prop} {b : Addr} {vs : List Value} {ns : List Int} (ok : c.Ok w (d + 20)) (st : St c m M news s.heap) (hL : c.h₀.IsList b vs.toArray) (hI : IntsAre vs ns) (hl : ns.length ≤ 63)
    (q : ∀ r q' t u n ys cnt ns' h' tk' news', St c m M news' h' → Sub news news' → (r, penO q' 0 t 0 u n) ∈ news' → (q', listOf ys.toArray cnt) ∈ news' → IntsAre ys ns' → ns'.length ≤ 63 → Q (.ref r) { s with heap := h', toks := tk' }) : wpAny (model Pr w) c.A (PySem.call (.ref 451) [.ref b]) Q E s := by
  refine wpAny_call ?_
  refine' code_defR (f := 451) (binds := [(Str.ofString "script", .ref b)]) ok.B st.F ok.X (news_sub' st.N) ok.T rfl rfl ok.hk ?ho ?hcd (Nat.lt_of_le_of_lt (Nat.le_add_right _ _) ok.hd) ?hb ?hloc ?body ?hco ?hgen ?hkd ?hcell
  case ho => k_is
  case hcd => k_is
  case hb => exact BindsTo.of_eq rfl
  case hloc => exact locs rfl
  case hco => rfl
  case hgen => rfl
  case hkd => rfl
  case hcell => decide
  intro g L' h₁ FG F' N' B' X' T' hg
  generalize hsc : Scope.mk _ _ _ _ _ = sc
  have k1 : sc.names.lookup (Str.ofString "script") = some .local := by rw [← hsc]; kernel_rfl
  have kf : sc.kind = .function := by rw [← hsc]
  have nocell : ∀ x, sc.names.lookup x ≠ some .cell := fun x e => by
    have := mem_of_lookup e
    rw [← hsc] at this
    simp only [List.mem_cons, Prod.mk.injEq, reduceCtorEq, and_false, List.not_mem_nil, or_self] at this
  have ki : relK (fun x => sc.names.lookup x) { kind := .function, names := [(Str.ofString ".0", .local), (Str.ofString "cell", .local), (Str.ofString "int", .globalImplicit)], isGenerator := false, isCoroutine := false } (Str.ofString "int") = some .globalImplicit := by rw [← hsc]; kernel_rfl
  clear hsc
  let c' : Ctx := { dp := c.dp + 1, un := c.un + 3, gd := c.gd, cn := Str.ofString "_law_pen", cs := sc, L := L', a := 451, ccd := .ref 450, cl := [], outer := c.env :: c.outer, A₀ := c.A, base := c.base, h₀ := g, mean := c.mean, mg := c.mg, mb := c.mb }
  have ok' : c'.Ok w (d + 19) := ⟨B', X', T', kf, by have := ok.hd; show c.dp + 1 + (d + 19) < _; omega, by have := ok.hu; show c.un + 3 + 8 * (d + 19) + 100 < _; omega⟩
  have st' : St c' _ [] news h₁ := ⟨F', N', fun p hp y hy => nomatch hy⟩
  have lo' : Loc w (fun x => sc.names.lookup x) [(Str.ofString "script", .val (.ref b))] c' (fun y => List.lookup y [(Str.ofString "script", Value.ref b)]) [] news := by
    refine ⟨rfl, fun x z hl => ?_, fun x y z e1 e2 => (nomatch e1), fun x z e => (nomatch e), fun x k => absurd k (nocell x)⟩
    cases hl with
    | hd => exact .inl ⟨k1, _, rfl, .val _⟩
    | tl hn hl => cases hl
  have hL' : g.IsList b vs.toArray := by
    obtain ⟨o, ho, hr⟩ := hL
    exact ⟨o, FG.keep _ _ ho, hr⟩
  have hlen : ((ns.map AV.int).length) ≤ 1000 := by rw [List.length_map]; omega
  have fm : ∀ p ∈ M, g.get? p.1 = some p.2 := fun y hy => hg _ _ (st.N y (List.mem_append_left _ hy)).1 fun hm => by
    obtain ⟨z, hz, e⟩ := List.mem_map.mp hm
    exact st.A z hz y hy e
  generalize hn2 : (ns.drop (kms_lo none (ns.map AV.int).length)).take (kms_hi (some 63) (ns.map AV.int).length - kms_lo none (ns.map AV.int).length) = ns2
  have pk : pickA (ns.map AV.int) none (some 63) = ns2.map AV.int := by
    rw [← hn2]; unfold pickA; rw [List.map_take, List.map_drop]
  have hl2 : ns2.length ≤ 63 := by
    rw [← hn2, List.length_take, List.length_drop]; omega
  refine wpAny_execs_cons (wpAny_Return_some (List_ (args_cons (ListComp_U (env := c'.env) (cl := []) F' (by with_unfolding_all rfl) (by decide) rfl (by decide) rfl (slice_base (w := w) (d := d + 19) (kd := fun x => sc.names.lookup x) ok' st' (lo'.sees kf) hL' (fun led => ints_is hI) (Ev.name .hd) Pt.none (Pt.some (k := 63) Ev.cint) hlen fun D h2 tk2 n2 st2 sb2 hD al2 => ?_) (by intro _; with_unfolding_all rfl)) (by with_unfolding_all rfl))))
  rw [pk] at al2
  have hsz := al2.length
  rw [List.length_map] at hsz
  refine CompSrc.ledger rfl st2.F st2.N (st2.mem hD) (by rw [List.size_toArray, hsz, sizeLine_eq]; omega) fun hp => ?_
  refine comp_rest (w := w) (d := d + 19) (kd := fun x => sc.names.lookup x) (ρ := [(Str.ofString "script", .val (.ref b))]) (α := Int) (l := ns2) (g := .int) (f := .int) (κ := []) ok' rfl rfl (fun a ha => Ev.callT (Ev.bltn ki (by k_is) (by boot_fact)) (Evs.consD (Ev.name .hd) Evs.nil) Do.int) n2 (fun ys n3 ap sb3 aly D2 h3 tk3 F3 N3 o1 => ?_) _ 0 [] n2 (by rw [List.size_toArray, hsz]; omega) hD (by rw [List.toList_toArray]; exact al2) (by simpa using Alls.nil) ((lo'.up sb2).sees kf) st2.A Sub.rfl' (fun y b hy => nomatch hy)
  have st4 := st_fin (c := c') F3 N3 o1 ap
  have fin : ∀ (n5 : Led) (h5 : Heap) (tk5 : Nat) (D5 : Addr) (t u : Tok) (n : Nat), St c' (fun y => List.lookup y [(Str.ofString "script", Value.ref b)]) [] n5 h5 → Sub news n5 → (D5, penO D2 0 t 0 u n) ∈ n5 → (D2, lst ys) ∈ n5 → LeaveK c.h₀ c.L m g (fun r s' => match r with | .ok (.ret v) => Q v s' | .ok _ => False | .error e => E e s') (.ref D5) { s with heap := h5, toks := tk5 } := fun n5 h5 tk5 D5 t u n st5 sb5 m1 m2 => by
    refine leaveK_ st5.F st5.N fun F6 N6 => q D5 D2 t u n ys _ ns2 h5 tk5 n5 ⟨F6, fun y hy => ?_, fun x hx y hy e => ?_⟩ sb5 m1 m2 (ints_of aly) hl2
    · rcases List.mem_append.mp hy with hy | hy
      · exact ⟨st5.F.keep _ _ (fm y hy), (st.N y (List.mem_append_left _ hy)).2⟩
      · exact N6 y (List.mem_append_right _ hy)
    · have := (st5.N x (List.mem_append_right _ hx)).2.2
      rw [e, fm y hy] at this; cases this
  refine args_cons (wpAny_Constant_int (args_cons (wpAny_Constant_int (args_nil (newList_K st4.F st4.N (fun D5 h5 F5 N5 lt5 => ?_) (by rw [sizeLine_eq]; exact Nat.le_of_ble_eq_true rfl)))) (by with_unfolding_all rfl))) (by with_unfolding_all rfl)
  exact fin _ h5 _ D5 _ _ _ (st4.push F5 N5 lt5) (fun p hp => List.mem_cons_of_mem _ (List.mem_cons_of_mem _ (sb3 _ (sb2 _ hp)))) (List.Mem.head _) (List.Mem.tail _ (List.Mem.head _))

/- the colours as the law says them -/
variable {w : World} {d : Nat}
theorem Fn.to {f : Addr} {l : List AV} {a b : AV} (h : Fn w d f l (· = a)) (e : a = b) : Fn w d f l (· = b) := e ▸ h
noncomputable abbrev hun (l : List Int) : AV := .lst ((l.map (· * 100)).map .dec)
noncomputable abbrev lg3 (x y z : Int) : Int := 30 * cut x + 59 * cut y + 11 * cut z
theorem cut_bd (t : Int) : 0 ≤ cut t ∧ cut t ≤ 100 := by unfold cut; omega
theorem clp_t (t : Int) : clp (t * 10000) = cut t * 10000 := by unfold clp cut; omega
theorem clp_in {x : Int} (h0 : 0 ≤ x) (h1 : x ≤ 1000000) : clp x = x := by unfold clp; omega
theorem ar_k (t : Int) : clp (1000000 - clp (t * 10000)) = 1000000 - cut t * 10000 := by rw [clp_t]; have := cut_bd t; exact clp_in (by omega) (by omega)
theorem mn2 (a b : Int) : min (1000000 - a * 10000) (1000000 - b * 10000) = 1000000 - max a b * 10000 := by omega
theorem mnk (a m : Int) : 1000000 - a * 10000 - (1000000 - m * 10000) = 100 * (m - a) * 100 := by omega
theorem mnl (m : Int) : 1000000 - m * 10000 = (10000 - 100 * m) * 100 := by omega
theorem ar_rg (x y z : Int) : bri (clp (x * 10000)) (clp (y * 10000)) (clp (z * 10000)) = lg3 x y z * 100 := by unfold bri; rw [clp_t, clp_t, clp_t]; unfold lg3; omega
theorem ar_cg (x y z u : Int) : clp (1000000 - (bri (clp (x * 10000)) (clp (y * 10000)) (clp (z * 10000)) + clp (u * 10000))) = max (10000 - lg3 x y z - 100 * cut u) 0 * 100 := by
  rw [ar_rg, clp_t]
  have := cut_bd x; have := cut_bd y; have := cut_bd z; have := cut_bd u
  unfold clp lg3
  omega
theorem ar_cr (x u : Int) : clp (1000000 - (clp (x * 10000) + clp (u * 10000))) = 100 * max (100 - cut x - cut u) 0 * 100 := by
  rw [clp_t, clp_t]
  have := cut_bd x; have := cut_bd u
  unfold clp
  omega
theorem hu_t (t : Int) : t * 10000 % 100 = 0 := by omega
theorem l1e {a b : Int} (h : a = b * 100) : AV.lst ([a].map .dec) = hun [b] := by rw [h]; rfl
theorem l3e {a b c x y z : Int} (h : a = x * 100) (h2 : b = y * 100) (h3 : c = z * 100) : AV.lst ([a, b, c].map .dec) = hun [x, y, z] := by rw [h, h2, h3]; rfl
theorem l4e {a b c e x y z u : Int} (h : a = x * 100) (h2 : b = y * 100) (h3 : c = z * 100) (h4 : e = u * 100) : AV.lst ([a, b, c, e].map .dec) = hun [x, y, z, u] := by rw [h, h2, h3, h4]; rfl
variable {x y z u : Int}
theorem f_gg : Fn w (d + 110) 439 [.str gray, .lst [.dec (x * 10000)], .str gray] (· = hun [100 * cut x]) := col_gg.to (l1e (by rw [clp_t]; omega))
theorem f_gr : Fn w (d + 110) 439 [.str gray, .lst [.dec (x * 10000)], .str rgb] (· = hun [100 * cut x, 100 * cut x, 100 * cut x]) := col_gr.to (l3e (by rw [clp_t]; omega) (by rw [clp_t]; omega) (by rw [clp_t]; omega))
theorem f_gc : Fn w (d + 110) 439 [.str gray, .lst [.dec (x * 10000)], .str cmyk] (· = hun [0, 0, 0, 10000 - 100 * cut x]) := col_gc.to (l4e rfl rfl rfl (by rw [ar_k]; omega))
theorem f_rg : Fn w (d + 110) 439 [.str rgb, .lst [.dec (x * 10000), .dec (y * 10000), .dec (z * 10000)], .str gray] (· = hun [lg3 x y z]) := (col_rg (hu_t _) (hu_t _) (hu_t _)).to (l1e (ar_rg _ _ _))
theorem f_rr : Fn w (d + 110) 439 [.str rgb, .lst [.dec (x * 10000), .dec (y * 10000), .dec (z * 10000)], .str rgb] (· = hun [100 * cut x, 100 * cut y, 100 * cut z]) := col_rr.to (l3e (by rw [clp_t]; omega) (by rw [clp_t]; omega) (by rw [clp_t]; omega))
theorem f_rc : Fn w (d + 110) 439 [.str rgb, .lst [.dec (x * 10000), .dec (y * 10000), .dec (z * 10000)], .str cmyk] (· = hun [100 * (max (max (cut x) (cut y)) (cut z) - cut x), 100 * (max (max (cut x) (cut y)) (cut z) - cut y), 100 * (max (max (cut x) (cut y)) (cut z) - cut z), 10000 - 100 * max (max (cut x) (cut y)) (cut z)]) :=
  col_rc.to (l4e (by rw [ar_k, ar_k, ar_k, mn2, mn2, mnk]) (by rw [ar_k, ar_k, ar_k, mn2, mn2, mnk]) (by rw [ar_k, ar_k, ar_k, mn2, mn2, mnk]) (by rw [ar_k, ar_k, ar_k, mn2, mn2, mnl]))
theorem f_cg : Fn w (d + 110) 439 [.str cmyk, .lst [.dec (x * 10000), .dec (y * 10000), .dec (z * 10000), .dec (u * 10000)], .str gray] (· = hun [max (10000 - lg3 x y z - 100 * cut u) 0]) := (col_cg (hu_t _) (hu_t _) (hu_t _)).to (l1e (ar_cg _ _ _ _))
theorem f_cr : Fn w (d + 110) 439 [.str cmyk, .lst [.dec (x * 10000), .dec (y * 10000), .dec (z * 10000), .dec (u * 10000)], .str rgb] (· = hun [100 * max (100 - cut x - cut u) 0, 100 * max (100 - cut y - cut u) 0, 100 * max (100 - cut z - cut u) 0]) := col_cr.to (l3e (ar_cr _ _) (ar_cr _ _) (ar_cr _ _))
theorem f_cc : Fn w (d + 110) 439 [.str cmyk, .lst [.dec (x * 10000), .dec (y * 10000), .dec (z * 10000), .dec (u * 10000)], .str cmyk] (· = hun [100 * cut x, 100 * cut y, 100 * cut z, 100 * cut u]) := col_cc.to (l4e (by rw [clp_t]; omega) (by rw [clp_t]; omega) (by rw [clp_t]; omega) (by rw [clp_t]; omega))
variable {g : Int}
theorem t_gg (h0 : 0 ≤ g) (h1 : g ≤ 10000) : Fn w (d + 110) 439 [.str gray, hun [g], .str gray] (· = hun [g]) := (col_gg (x := g * 100)).to (l1e (clp_in (by omega) (by omega)))
theorem t_gr (h0 : 0 ≤ g) (h1 : g ≤ 10000) : Fn w (d + 110) 439 [.str gray, hun [g], .str rgb] (· = hun [g, g, g]) := (col_gr (x := g * 100)).to (l3e (clp_in (by omega) (by omega)) (clp_in (by omega) (by omega)) (clp_in (by omega) (by omega)))
theorem t_gc (h0 : 0 ≤ g) (h1 : g ≤ 10000) : Fn w (d + 110) 439 [.str gray, hun [g], .str cmyk] (· = hun [0, 0, 0, 10000 - g]) := (col_gc (x := g * 100)).to (l4e rfl rfl rfl (by rw [clp_in (x := g * 100) (by omega) (by omega), clp_in (by omega) (by omega)]; omega))
theorem t_rg (h0 : 0 ≤ g) (h1 : g ≤ 10000) : Fn w (d + 110) 439 [.str rgb, hun [g, g, g], .str gray] (· = hun [g]) := (col_rg (x := g * 100) (y := g * 100) (z := g * 100) (by omega) (by omega) (by omega)).to (l1e (by unfold bri; rw [clp_in (x := g * 100) (by omega) (by omega)]; omega))
theorem t_cg (h0 : 0 ≤ g) (h1 : g ≤ 10000) : Fn w (d + 110) 439 [.str cmyk, hun [0, 0, 0, 10000 - g], .str gray] (· = hun [g]) := (col_cg (x := 0 * 100) (y := 0 * 100) (z := 0 * 100) (u := (10000 - g) * 100) (by omega) (by omega) (by omega)).to (l1e (by
  rw [clp_in (x := (10000 - g) * 100) (by omega) (by omega), clp_in (x := 0 * 100) (by omega) (by omega)]
  unfold bri
  rw [clp_in (by omega) (by omega)]; omega))
theorem lg3_bd : 0 ≤ lg3 x y z ∧ lg3 x y z ≤ 10000 := by
  have := cut_bd x; have := cut_bd y; have := cut_bd z
  unfold lg3; omega
/-- two rows of told numbers, compared -/
theorem Ts.told {kd : Str → Option NameKind} {ρ : List (Str × AV)} {e1 e2 t1 t2 : PySem.Expr} {x1 x2 : Str} {px1 px2 p1 p2 p : Pos} {sc1 sc2 : Scope} {due : List Int} (h1 : Ev w d kd ρ e1 (· = hun due)) (h2 : Ev w d kd ρ e2 (· = .lst (due.map .int))) (hs1 : okSc sc1 x1 = true) (hs2 : okSc sc2 x2 = true) (hz : due.length ≤ 20)
    (ht1 : ∀ v, Ev w d (relK kd sc1) [(x1, .dec v)] t1 (· = .tup [.int (T6 v), .int (P6 v)])) (ht2 : ∀ v, Ev w d (relK kd sc2) [(x2, .int v)] t2 (· = .tup [.int (T6 (v * 100)), .int (P6 (v * 100))]))
    (hc1 : ∀ env, closureFor sc1 env = pure [] := by intro _; with_unfolding_all rfl) (hf1 : ∀ env x, foldedSetIterable e1 env x = pure x := by intro _ _; with_unfolding_all rfl)
    (hc2 : ∀ env, closureFor sc2 env = pure [] := by intro _; with_unfolding_all rfl) (hf2 : ∀ env x, foldedSetIterable e2 env x = pure x := by intro _ _; with_unfolding_all rfl) (k : behindInMarks .NotEq (.ListComp t2 [⟨.Name x2 px2, e2, [], 0⟩] sc2 p2) = false := by with_unfolding_all rfl) :
    Ts w d kd ρ (.Compare (.ListComp t1 [⟨.Name x1 px1, e1, [], 0⟩] sc1 p1) [.NotEq] [.ListComp t2 [⟨.Name x2 px2, e2, [], 0⟩] sc2 p2] p) (· = false) := by
  refine Ts.cmp ((Ev.comp (l := due.map (· * 100)) (g := .dec) (f := fun v => .tup [.int (T6 v), .int (P6 v)]) h1 hs1 (by rw [List.length_map]; omega) (fun v _ => ht1 v) hc1 hf1).to (b := .lst (due.map fun v => .tup [.int (T6 (v * 100)), .int (P6 (v * 100))])) ?_) (Ev.comp (l := due) (g := .int) (f := fun v => .tup [.int (T6 (v * 100)), .int (P6 (v * 100))]) h2 hs2 (by omega) (fun v _ => ht2 v) hc2 hf2) (Do2.neL ?_) k
  · rw [List.map_map]; rfl
  · rw [List.all_map, List.all_eq_true]; intro v _; rfl

variable {w : World} {d : Nat} {kd : Str → Option NameKind}
set_option maxRecDepth 100000
/-- pen = _law_pen(script) -/
theorem pen_stmt {c : Ctx} {m : Str → Option Value} {M news : Led} {s : Shared} {Q : Flow → Shared → Prop} {E : Value → Shared → Prop} {x y f : Str} {p1 p2 p3 p4 pf : Pos} {sv : Addr} {vs : List Value} {ns : List Int} (ok : c.Ok w (d + 20)) (st : St c m M news s.heap) (lo : Loc w kd [(y, .val (.ref sv))] c m M news) (hL : c.h₀.IsList sv vs.toArray) (hI : IntsAre vs ns) (hl : ns.length ≤ 63)
    (hf : Ev w (d + 20) kd [(y, .val (.ref sv))] (.Name f pf) (· = .val (.ref 451))) (hx : kd x = some .cell) (hy : kd y = some .local) (hyd : (y == ("__debug__" : Str)) = false)
    (q : ∀ pa m' M' h' tk' n', St c m' M' n' h' → Loc w kd [(x, .val (.ref pa)), (y, .val (.ref sv))] c m' M' n' → Pen M' n' pa 0 → Q .next { s with heap := h', toks := tk' })
    (k1 : ∀ env, starEach [.Name y p2] env = (false, eval (.Name y p2) env) :: starEach [] env := by intro _; with_unfolding_all rfl) (k2 : ∀ env, ((backTo p3 (starEach [] env)).any fun x => x.1) = false := by intro _; with_unfolding_all rfl)
    (k : ∀ env, swapsWith (.Call (.Name f pf) [.Name y p2] [] p3) (some (PySem.Expr.Name x p1)) p4.line env = pure false := by intro _; with_unfolding_all rfl) :
    wpAny (model Pr w) c.A (exec (.Assign [.Name x p1] (.Call (.Name f pf) [.Name y p2] [] p3) p4) c.env) Q E s := by
  refine wpAny_Assign_Name (Call_ (hf c c.env m M news s _ E ok st (lo.sees ok.hk) fun v a' h' tk' n' st' sb p i => ?_)) (k _)
  subst p
  cases i
  refine callWith_K (first := []) ok.X (by kernel_rfl) ((Evs.consD (Ev.name .hd hyd) Evs.nil k1) p3 c c.env m M n' _ _ E ok st' ((lo.up sb).sees ok.hk) fun vs' l' h2 tk2 n2 st2 sb2 p2 al => ⟨ok.X.keeps st2.F.keep, ?_⟩) (k1 _) (k2 _)
  subst p2
  obtain ⟨u, rfl, i1⟩ := al.inv1
  cases i1
  refine run_pen ok st2 hL hI hl fun r q' t u n ys cnt ns' h3 tk3 n3 st3 sb3 m1 m2 hI' hl' => ?_
  obtain ⟨n4, sb4, st4, pn⟩ := pen_in st3 m1 m2 hI' hl'
  have lo4 : Loc w kd [(y, .val (.ref sv))] c m ((r, penO q' 0 t 0 u n) :: M) n4 := ⟨lo.kof, fun z b hz => by
    cases hz with
    | tl _ h => cases h
    | hd =>
      rcases lo.nm y _ .hd with ⟨l1, v, l2, l3⟩ | ⟨l1, _⟩
      · cases l3
        exact .inl ⟨l1, _, l2, .val _⟩
      · rw [hy] at l1; exact absurd l1 (by decide), lo.ap, fun z b hz => by
    obtain ⟨own, o, rest, v₀, er, hd, o1, o2⟩ := lo.nd z b hz
    refine ⟨(r, penO q' 0 t 0 u n) :: own, o, rest, v₀, by rw [er]; rfl, hd, fun p hp => ?_, o2⟩
    rcases List.mem_cons.mp hp with rfl | hp
    · exact st3.A _ m1 (b, o) (by rw [er]; exact List.mem_append_right _ (.head _))
    · exact o1 p hp, lo.hc⟩
  exact store_cell (a := .val (.ref r)) ok.hk st4 lo4 hx (.val _) fun m' M' h5 tk5 st5 lo5 mv => q r m' M' h5 tk5 n4 st5 lo5 (pn.mv (pn.notcell st4 lo4) mv)
/-- the law's run -/
noncomputable def LawRun (w : World) (b : List Stmt) (kd : Str → Option NameKind) : Prop :=
  ∀ (c : Ctx) (m : Str → Option Value) (M news : Led) (s : Shared) (Q : Flow → Shared → Prop) (E : Value → Shared → Prop) (sv : Addr) (vs : List Value) (ns : List Int), c.outer = [] → c.base = c.h₀ → c.Ok w 200 → PassesOwn (model Pr w) c.A c.env E → St c m M news s.heap → Loc w kd [(Str.ofString "script", .val (.ref sv))] c m M news → c.h₀.IsList sv vs.toArray → IntsAre vs ns → ns.length ≤ 63 →
    (∀ m' M' h' tk' n', St c m' M' n' h' → Q (.ret (.bool true)) { s with heap := h', toks := tk' }) → wpAny (model Pr w) c.A (execs b c.env) Q E s
theorem law_intro {oc : Value} {od : Option Addr} {name qual : Str} {params : Arguments} {body : List Stmt} {scope : Scope} {dV kV doc pm cdv ct : Value} {an : Option Addr} {osl : Array (Option Value)}
    (ho : List.lookup 501 (hd.heap_39 w.params) = some ⟨oc, od, .func (fnOf name qual params body scope dV kV doc pm an cdv ct), osl⟩) (h : LawRun w body (fun x => scope.names.lookup x)) :
    ∃ (oc : Value) (od : Option Addr) (name qual : Str) (params : Arguments) (body : List Stmt) (scope : Scope) (dV kV doc pm : Value) (an : Option Addr) (cdv ct : Value) (osl : Array (Option Value)), List.lookup 501 (hd.heap_39 w.params) = some ⟨oc, od, .func (fnOf name qual params body scope dV kV doc pm an cdv ct), osl⟩ ∧ LawRun w body (fun x => scope.names.lookup x) := ⟨_, _, _, _, _, _, _, _, _, _, _, _, _, _, _, ho, h⟩
/-- a drawn number of two -/
theorem draw_pick {a b : AV} (h : (∃ x y, (∃ z, x = AV.int z ∧ 0 ≤ z ∧ z < 101) ∧ (∃ z, y = AV.int z) ∧ a = .lst [x, y])) (k : ∃ z, b = AV.int z ∧ 0 ≤ z ∧ z < 2) : ∃ l k x, a = .lst l ∧ b = .int k ∧ 0 ≤ k ∧ k < 2 ^ 63 ∧ l[k.toNat]? = some x ∧ ∃ z, x = AV.int z := by
  obtain ⟨x, y, ⟨z1, rfl, _⟩, ⟨z2, rfl⟩, rfl⟩ := h
  obtain ⟨z, rfl, z0, z1'⟩ := k
  have : z = 0 ∨ z = 1 := by omega
  rcases this with rfl | rfl
  · exact ⟨_, 0, _, rfl, rfl, by decide, by decide, rfl, _, rfl⟩
  · exact ⟨_, 1, _, rfl, rfl, by decide, by decide, rfl, _, rfl⟩
variable {w : World} {d : Nat} {kd : Str → Option NameKind}
/-- what is asked of a space: its count, its colours as the law says them -/
structure SpOK (w : World) (n : Str) (kk : Nat) : Prop where
  cnt : ∀ d, Fn w (d + 30) 396 [.int kk] (· = .sp n kk)
  nd : (n == Str.ofString "__debug__") = false
  le : kk ≤ 4
  col : ∀ xs : List Int, xs.length = kk → ∃ (G : Int) (R C : List Int), 0 ≤ G ∧ G ≤ 10000 ∧ R.length ≤ 20 ∧ C.length ≤ 20 ∧
    (∀ d, Fn w (d + 110) 439 [.str n, .lst (xs.map fun t => .dec (t * 10000)), .str gray] (· = hun [G])) ∧ (∀ d, Fn w (d + 110) 439 [.str n, .lst (xs.map fun t => .dec (t * 10000)), .str rgb] (· = hun R)) ∧ (∀ d, Fn w (d + 110) 439 [.str n, .lst (xs.map fun t => .dec (t * 10000)), .str cmyk] (· = hun C)) ∧
    (∀ d, Fn w (d + 10) 479 [.lst (xs.map fun t => .int (cut t))] (· = .int G)) ∧ (∀ d, Fn w (d + 10) 484 [.lst (xs.map fun t => .int (cut t))] (· = .lst (R.map .int))) ∧ (∀ d, Fn w (d + 10) 489 [.lst (xs.map fun t => .int (cut t))] (· = .lst (C.map .int)))
theorem sp_gray : SpOK w gray 1 := ⟨fun d => F_count (.head _), by decide +kernel, by decide, fun xs h => by
  match xs, h with
  | [x], _ =>
    have := cut_bd x
    exact ⟨100 * cut x, _, _, by omega, by omega, le_k rfl, le_k rfl, fun d => f_gg, fun d => f_gr, fun d => f_gc, fun d => F_lgray1, fun d => F_lrgb1, fun d => F_lcmyk1⟩⟩
theorem sp_rgb : SpOK w rgb 3 := ⟨fun d => F_count (.tail _ (.head _)), by decide +kernel, by decide, fun xs h => by
  match xs, h with
  | [x, y, z], _ =>
    exact ⟨lg3 x y z, _, _, lg3_bd.1, lg3_bd.2, le_k rfl, le_k rfl, fun d => f_rg, fun d => f_rr, fun d => f_rc, fun d => F_lgray3, fun d => F_lrgb3, fun d => F_lcmyk3⟩⟩
theorem sp_cmyk : SpOK w cmyk 4 := ⟨fun d => F_count (.tail _ (.tail _ (.head _))), by decide +kernel, by decide, fun xs h => by
  match xs, h with
  | [x, y, z, u], _ =>
    have := cut_bd u
    have h0 := (lg3_bd (x := x) (y := y) (z := z)).1
    exact ⟨max (10000 - lg3 x y z - 100 * cut u) 0, _, _, by omega, by omega, le_k rfl, le_k rfl, fun d => f_cg, fun d => f_cr, fun d => f_cc, fun d => F_lgray4, fun d => F_lrgb4, fun d => F_lcmyk4⟩⟩
theorem ExP.imp {ρ : List (Str × AV)} {pa : Addr} {n : Nat} {sts : List Stmt} {N N' : List (Str × AV) → Prop} {R : AV → Prop} (h : ExP w d kd ρ pa n sts N R) (k : ∀ ρ, N ρ → N' ρ) : ExP w d kd ρ pa n sts N' R := fun c m M news s Q E i ok ow st lo pn i0 i1 q r =>
  h c m M news s Q E i ok ow st lo pn i0 i1 (fun ρ' m' M' h' tk' n' i' st' lo' cg pn' j0 j1 sb hN => q ρ' m' M' h' tk' n' i' st' lo' cg pn' j0 j1 sb (k _ hN)) r
noncomputable abbrev bsOf (n : Str) (kk : Nat) : List (Str × AV) := [(Str.ofString "count", .int (kk : Int)), (Str.ofString "name", .str n)]
theorem fors3 {ρ : List (Str × AV)} {pa : Addr} {body : List Stmt} {R : AV → Prop} {Pre : List (Str × AV) → Prop} {Post : Nat → List (Str × AV) → Prop} (H : ∀ n kk, SpOK w n kk → ∀ ρ, Pre ρ → ExP w d kd (bsOf n kk ++ ρ) pa (3 * kk) body (Post kk) R) (hp : ∀ kk ρ, Post kk ρ → Pre ρ) (h : Pre ρ) :
    ForsP w d kd pa body R [(3 * 1, bsOf gray 1), (3 * 3, bsOf rgb 3), (3 * 4, bsOf cmyk 4)] ρ (Post 4) :=
  (H gray 1 sp_gray ρ h).imp fun ρ1 h1 => (H rgb 3 sp_rgb ρ1 (hp _ _ h1)).imp fun ρ2 h2 => (H cmyk 4 sp_cmyk ρ2 (hp _ _ h2)).imp fun ρ3 h3 => h3
theorem ints_list : ∀ {l : List AV}, (∀ a ∈ l, ∃ z, a = AV.int z) → ∃ xs : List Int, l = xs.map .int
  | [], _ => ⟨[], rfl⟩
  | a :: l, h => by
    obtain ⟨z, rfl⟩ := h a (.head _)
    obtain ⟨xs, rfl⟩ := ints_list fun b hb => h b (.tail _ hb)
    exact ⟨z :: xs, rfl⟩
/-- _law_refused(way, numbers), evaluated in the law's frame -/
theorem ref_call {w : World} {kd : Str → Option NameKind} {ρ : List (Str × AV)} {c : Ctx} {m : Str → Option Value} {M news : Led} {s : Shared} {Q E : Value → Shared → Prop} {x : Str} {p pos : Pos} {e1 e2 : PySem.Expr} {i : Int} {a : AV} (hout : c.outer = []) (hbase : c.base = c.h₀) (ok : c.Ok w 200) (st : St c m M news s.heap) (lo : Loc w kd ρ c m M news)
    (hf : Ev w 200 kd ρ (.Name x p) (· = .val (.ref 496))) (ha : Evs w 200 kd ρ [e1, e2] (· = [.int i, a])) (hX : (i = 0 ∧ FnX w (80 + 110) 439 [.str rgb, a, .str gray]) ∨ (i = 1 ∧ FnX w (130 + 60) 396 [.int 2])) (q : ∀ h' tk' n', St c m M n' h' → Sub news n' → Q (.bool true) { s with heap := h', toks := tk' })
    (k1 : ∀ env, starEach [e1, e2] env = (false, eval e1 env) :: starEach [e2] env := by intro _; with_unfolding_all rfl) (k2 : ∀ env, ((backTo pos (starEach [e2] env)).any fun x => x.1) = false := by intro _; with_unfolding_all rfl) :
    wpAny (model Pr w) c.A (eval (.Call (.Name x p) [e1, e2] [] pos) c.env) Q E s :=
  Call_ (hf c c.env m M news s _ E ok st (lo.sees ok.hk) fun v a' h' tk' n' st' sb p i => by
    subst p
    cases i
    refine callWith_K (first := []) ok.X (by kernel_rfl) (ha pos c c.env m M n' _ _ E ok st' ((lo.up sb).sees ok.hk) fun vs l' h2 tk2 n2 st2 sb2 p2 al => ⟨ok.X.keeps st2.F.keep, ?_⟩) (k1 _) (k2 _)
    subst p2
    exact run_refused (d := 70) hout hbase ok st2 al hX fun h3 tk3 st3 => q h3 tk3 n2 st3 (sb.tr sb2))
variable {w : World}
set_option maxRecDepth 100000
set_option maxHeartbeats 4000000
local macro_rules | `(tactic| kt_at_get) => `(tactic| with_reducible exact Ev.cbts)
local macro_rules | `(tactic| kt_eqs) => `(tactic| (with_reducible refine' F_octet ?zn; (case zn => first | exact NmA.dec _ | exact NmA.int _)))
local macro_rules | `(tactic| kt_eqs) => `(tactic| first | with_reducible exact t_gg (by assumption) (by assumption) | with_reducible exact t_rg (by assumption) (by assumption) | with_reducible exact t_cg (by assumption) (by assumption))
theorem law_ex : ∃ (oc : Value) (od : Option Addr) (name qual : Str) (params : Arguments) (body : List Stmt) (scope : Scope) (dV kV doc pm : Value) (an : Option Addr) (cdv ct : Value) (osl : Array (Option Value)), List.lookup 501 (hd.heap_39 w.params) = some ⟨oc, od, .func (fnOf name qual params body scope dV kV doc pm an cdv ct), osl⟩ ∧ LawRun w body (fun x => scope.names.lookup x) := by
  refine' law_intro ?ho ?run
  case ho => k_is
  case run =>
    intro c m M news s Q E sv vs ns hout hbase ok ow st lo hL hI hl q
    refine wpAny_execs_cons (pen_stmt (d := 180) ok st lo hL hI hl ?hf ?hx ?hy ?hyd fun pa m1 M1 h1 tk1 n1 st1 lo1 pn1 => ?_)
    case hf => exact Ev.glob (by kernel_rfl) (by k_is)
    case hx => kernel_rfl
    case hy => kernel_rfl
    case hyd => decide +kernel
    refine wpAny_execs_cons (Ex1.set (w := w) (d := 200) (R := fun _ => False) (a := .lst [.str gray, .str rgb, .str cmyk]) ?e ?kl (by intro _; with_unfolding_all rfl) c m1 M1 n1 _ _ E ok ow st1 lo1 (fun ρ2 m2 M2 h2 tk2 n2 st2 lo2 mv2 sb2 e2 => ?_) (fun _ _ _ _ _ _ _ _ _ f _ => f.elim))
    case e => kt_at_get
    case kl => kernel_rfl
    subst e2
    have pn2 := (pn1.mv (pn1.notcell st1 lo1) mv2).up sb2
    clear pn1 lo1 st1
    refine wpAny_execs_cons (forZ_pen (w := w) (d := 200) (l := [.str gray, .str rgb, .str cmyk]) (r := [.int 1, .int 3, .int 4]) (bss := [(3 * 1, bsOf gray 1), (3 * 3, bsOf rgb 3), (3 * 4, bsOf cmyk 4)]) (R := fun _ => False) (N := fun ρ' => Lk ρ' (Str.ofString "pen") (.val (.ref pa)) ∧ Lk ρ' (Str.ofString "spaces") (.lst [.str gray, .str rgb, .str cmyk]) ∧ ∃ xs : List Int, xs.length = 4 ∧ Lk ρ' (Str.ofString "numbers") (.lst (xs.map fun t => .dec (t * 10000)))) ok ow st2 lo2 pn2 (by decide) (by decide) ?hz ?ha ?hx ?hy rfl ?hf (fun ρ3 m3 M3 h3 tk3 n3 i3 st3 lo3 pn3 j0 j1 sb3 hN => ?_) (fun _ _ _ _ _ _ _ _ _ f _ => f.elim))
    case hz => kt_at_get
    case ha => kt_at_method
    case hx => kernel_rfl
    case hy => kernel_rfl
    case hf =>
      refine fors3 (Pre := fun ρ' => Lk ρ' (Str.ofString "pen") (.val (.ref pa)) ∧ Lk ρ' (Str.ofString "spaces") (.lst [.str gray, .str rgb, .str cmyk])) (Post := fun kk ρ' => Lk ρ' (Str.ofString "pen") (.val (.ref pa)) ∧ Lk ρ' (Str.ofString "spaces") (.lst [.str gray, .str rgb, .str cmyk]) ∧ ∃ xs : List Int, xs.length = kk ∧ Lk ρ' (Str.ofString "numbers") (.lst (xs.map fun t => .dec (t * 10000)))) (fun n kk sp ρ hρ => ?_) (fun kk ρ h => ⟨h.1, h.2.1⟩) ⟨by kt_at_item, by kt_at_item⟩
      obtain ⟨hpen, hspc⟩ := hρ
      have hle := sp.le
      dsimp only [bsOf, List.cons_append, List.nil_append]
      refine' ExP.draws (y := Str.ofString "pen") (n := 3) (kk := kk) (P := fun a => ∃ z, a = .int z) ?hkk ?hrg ?hcn ?hsc ?hy ?hky ?hry ?hb ?hl ?hrest ?hcl
      case hkk => omega
      case hrg => kt_at_get
      case hcn => kt_at_get
      case hsc => kernel_rfl
      case hy => kt_at_item
      case hky => kernel_rfl
      case hry => kernel_rfl
      case hl => kernel_rfl
      case hcl => exact fun env q h => closure_one h (by kernel_rfl)
      case hb =>
        intro j
        refine' EvP.item (n1 := 2) (n2 := 1) (EvP.list2 (n1 := 1) (n2 := 1) (EvP.draw (d := 140) ?f1 ?g1 ?a1 ?b1) (EvP.bin (P := fun y => ∃ z, y = AV.int z) (EvP.draw (d := 140) ?f2 ?g2 ?a2 ?b2) ?c2 ?o2)) (EvP.bin (P := fun y => ∃ z, y = AV.int z ∧ 0 ≤ z ∧ z < 2) (EvP.draw (d := 140) ?f3 ?g3 ?a3 ?b3) ?c3 ?o3) (fun a b => draw_pick)
        case f1 => kt_at_get
        case g1 => kt_at_get
        case a1 => decide
        case b1 => decide
        case f2 => kt_at_get
        case g2 => kt_at_get
        case a2 => decide
        case b2 => decide
        case c2 => kt_at_get
        case o2 =>
          rintro _ ⟨z, rfl, _⟩ c m M news s u v Q E ok st hu hv q
          exact Do2.sub c m M news s u v Q E ok st hu hv fun v a h' tk' n' st' sb e i => q v a h' tk' n' st' sb ⟨_, e⟩ i
        case f3 => kt_at_get
        case g3 => kt_at_get
        case a3 => decide
        case b3 => decide
        case c3 => kt_at_get
        case o3 =>
          rintro _ ⟨z, rfl, z0, z1⟩ c m M news s u v Q E ok st hu hv q
          refine Do2.fdiv (by decide) (by decide) c m M news s u v Q E ok st hu hv fun v a h' tk' n' st' sb e i => q v a h' tk' n' st' sb ⟨_, e, ?_⟩ i
          rw [Int.fdiv_eq_ediv_of_nonneg _ (by decide)]
          omega
      case hrest =>
        intro l hll hPl
        obtain ⟨xs, rfl⟩ := ints_list hPl
        rw [List.length_map] at hll
        obtain ⟨G, R, C, g0, g1, rl, cl, cG, cR, cC, lG, lR, lC⟩ := sp.col xs hll
        have hxz : xs.length ≤ 1000 := by omega
        refine' Ex.consD (Ex1.comp (l := xs) (g := .int) (f := fun t => .dec (t * 10000)) ?i1 ?sc1 hxz ?b1 ?l1) (Ex.consD (Ex1.comp (l := xs) (g := .int) (f := fun t => .int (cut t)) ?i2 ?sc2 hxz ?b2 ?l2) ?rest)
        case i1 => kt_at_get
        case sc1 => kernel_rfl
        case b1 => intro t ht; kt_at_get
        case l1 => kernel_rfl
        case i2 => kt_at_get
        case sc2 => kernel_rfl
        case b2 => intro t ht; kt_at_get
        case l2 => kernel_rfl
        case rest =>
          refine' Ex.cons (N' := fun ρ' => Lk ρ' (Str.ofString "name") (.str n) ∧ Lk ρ' (Str.ofString "count") (.int (kk : Int)) ∧ Lk ρ' (Str.ofString "numbers") (.lst (xs.map fun t => .dec (t * 10000))) ∧ Lk ρ' (Str.ofString "spaces") (.lst [.str gray, .str rgb, .str cmyk]) ∧ Lk ρ' (Str.ofString "pen") (.val (.ref pa))) (Ex1.forT (xs := [(Str.ofString "wanted", _), (Str.ofString "due", _)]) (ls := [[.str gray, .lst ([G].map .int)], [.str rgb, .lst (R.map .int)], [.str cmyk, .lst (C.map .int)]]) (Ev.to ?e ?ke) ?hl ?hn ?hf) (fun ρ1 h1 => ?rest)
          case' e => with_reducible refine' Ev.list (Evs.consD (Ev.tuple (Evs.consD Ev.cstr (Evs.consD (Ev.list (Evs.consD (Ev.call ?zf ?zk ?za (lG _)) Evs.nil) ?z0) Evs.nil)) ?z1) (Evs.consD (Ev.tuple (Evs.consD Ev.cstr (Evs.consD (Ev.call ?yf ?yk ?ya (lR _)) Evs.nil)) ?z2) (Evs.consD (Ev.tuple (Evs.consD Ev.cstr (Evs.consD (Ev.call ?xf ?xk ?xa (lC _)) Evs.nil)) ?z3) Evs.nil))) ?z4
          case ke => rfl
          case zf => kt_at_get
          case yf => kt_at_get
          case xf => kt_at_get
          case zk => kernel_rfl
          case yk => kernel_rfl
          case xk => kernel_rfl
          case za => kt_at_method
          case ya => kt_at_method
          case xa => kt_at_method
          case z0 => exact le_k rfl
          case z1 => exact le_k rfl
          case z2 => exact le_k rfl
          case z3 => exact le_k rfl
          case z4 => exact le_k rfl
          case hl =>
            intro x hx
            simp only [List.mem_cons, List.not_mem_nil, or_false] at hx
            rcases hx with rfl | rfl <;> kernel_rfl
          case hn =>
            intro l hl
            simp only [List.mem_cons, List.not_mem_nil, or_false] at hl
            rcases hl with rfl | rfl | rfl <;> rfl
          case hf =>
            dsimp only [List.map, tupB, bindA, Fors, List.cons_append, List.nil_append]
            refine' Ex.ifrF (Ts.told (due := [G]) (Ev.call ?f1 ?k1 ?a1 (cG _)) (Ev.to ?b1 ?bk) ?s1 ?t1 ?z1 ?p1 ?q1) (Ex.nil (Ex.ifrF (Ts.told (due := R) (Ev.call ?f2 ?k2 ?a2 (cR _)) ?b2 ?s2 ?t2 rl ?p2 ?q2) (Ex.nil (Ex.ifrF (Ts.told (due := C) (Ev.call ?f3 ?k3 ?a3 (cC _)) ?b3 ?s3 ?t3 cl ?p3 ?q3) (Ex.nil ?n)))))
            case f1 => kt_at_get
            case f2 => kt_at_get
            case f3 => kt_at_get
            case k1 => kernel_rfl
            case k2 => kernel_rfl
            case k3 => kernel_rfl
            case a1 => kt_at_method
            case a2 => kt_at_method
            case a3 => kt_at_method
            case' b1 => kt_at_get
            case bk => rfl
            case b2 => kt_at_get
            case b3 => kt_at_get
            case s1 => kernel_rfl
            case s2 => kernel_rfl
            case s3 => kernel_rfl
            case t1 => kernel_rfl
            case t2 => kernel_rfl
            case t3 => kernel_rfl
            case z1 => exact le_k rfl
            case p1 => intro v; kt_at_get
            case p2 => intro v; kt_at_get
            case p3 => intro v; kt_at_get
            case q1 => intro v; kt_at_get
            case q2 => intro v; kt_at_get
            case q3 => intro v; kt_at_get
            case n => exact ⟨by kt_at_item, by kt_at_item, by kt_at_item, by kt_at_item, by kt_at_item⟩
          case rest =>
            obtain ⟨hn1, hc1, hm1, hs1, hp1⟩ := h1
            refine' Ex.ifrF (Ts.cmp (Ev.meth0 (Ev.call ?f1 ?k1 ?a1 (sp.cnt _)) Mt.sp ?k2 F_stold) ?tup Do2.neSp) (Ex.consD (Ex1.set (Ev.call ?f2 ?k3 ?a2 (cG _)) ?l1) ?rest2)
            case f1 => kt_at_get
            case k1 => kernel_rfl
            case a1 => kt_at_method
            case k2 => kernel_rfl
            case tup => kt_at_get
            case f2 => kt_at_get
            case k3 => kernel_rfl
            case a2 => kt_at_method
            case l1 => kernel_rfl
            case rest2 =>
              refine' Ex.cons (N' := fun ρ' => Lk ρ' (Str.ofString "pen") (.val (.ref pa)) ∧ Lk ρ' (Str.ofString "spaces") (.lst [.str gray, .str rgb, .str cmyk]) ∧ ∃ xs : List Int, xs.length = kk ∧ Lk ρ' (Str.ofString "numbers") (.lst (xs.map fun t => .dec (t * 10000)))) (Ex1.forL (l := [.str gray, .str rgb, .str cmyk]) ?e9 ?hl9 ?hf9) (fun ρ2 h2 => Ex.nil h2)
              case e9 => kt_at_get
              case hl9 => kernel_rfl
              case hf9 =>
                dsimp only [List.map, Fors, List.cons_append, List.nil_append]
                refine' Ex.consD (Ex1.set (Ev.call ?f91 ?k91 ?a91 (t_gg g0 g1)) ?l91) (Ex.ifrF (Ts.cmp ?c91 ?d91 (Do2.neT ?e91)) (Ex.nil (Ex.consD (Ex1.set (Ev.call ?f92 ?k92 ?a92 (t_gr g0 g1)) ?l92) (Ex.ifrF (Ts.cmp ?c92 ?d92 (Do2.neT ?e92)) (Ex.nil (Ex.consD (Ex1.set (Ev.call ?f93 ?k93 ?a93 (t_gc g0 g1)) ?l93) (Ex.ifrF (Ts.cmp ?c93 ?d93 (Do2.neT ?e93)) (Ex.nil ?n9))))))))
                case f91 => kt_at_get
                case f92 => kt_at_get
                case f93 => kt_at_get
                case k91 => kernel_rfl
                case k92 => kernel_rfl
                case k93 => kernel_rfl
                case a91 => kt_at_method
                case a92 => kt_at_method
                case a93 => kt_at_method
                case l91 => kernel_rfl
                case l92 => kernel_rfl
                case l93 => kernel_rfl
                case' c91 => kt_at_get
                case' c92 => kt_at_get
                case' c93 => kt_at_get
                case' d91 => kt_at_get
                case' d92 => kt_at_get
                case' d93 => kt_at_get
                case e91 => exact rfl
                case e92 => exact rfl
                case e93 => exact rfl
                case n9 => exact ⟨by kt_at_item, by kt_at_item, xs, hll, by kt_at_item⟩
    obtain ⟨hp3, _, xs, hxl, hm3⟩ := hN
    refine wpAny_execs_cons (wpAny_Assign_Name (EvP.bin (w := w) (d := 200) (b := .int 5000) (P := fun a => ∃ z, a = AV.int z) (EvP.draw (d := 140) ?df ?dp ?d0 ?d1) ?d2 ?d3 c c.env m3 M3 n3 _ _ E i3 ok st3 (fun M' pm => (lo3.pmv st3 pn3 pm).sees ok.hk) pn3 j0 (by omega) fun v a h4 tk4 M4 n4 i4 st4 pm4 pn4 _ _ sb4 ez is => ?_) (by with_unfolding_all rfl))
    case df => kt_at_get
    case dp => kt_at_get
    case d0 => decide
    case d1 => decide
    case d2 => kt_at_get
    case d3 =>
      rintro _ ⟨z, rfl, _⟩ c m M news s u v Q E ok st hu hv q
      exact Do2.sub c m M news s u v Q E ok st hu hv fun v a h' tk' n' st' sb e i => q v a h' tk' n' st' sb ⟨_, e⟩ i
    obtain ⟨z, rfl⟩ := ez
    refine storeX_L st4.F st4.N (fun h5 F5 N5 => ?_) ok.hk (by rw [lo3.kof]; kernel_rfl)
    have st5 : St c _ M4 n4 h5 := ⟨F5, N5, st4.A⟩
    have lo5 := ((lo3.pmv st3 pn3 pm4).up sb4).setL (x := Str.ofString "top") (by kernel_rfl) is
    refine wpAny_execs_cons (Ex1.set (w := w) (d := 200) (R := fun _ => False) (a := .int (rnd (clp (z * 100) * 255))) ?e4 ?k4 (by intro _; with_unfolding_all rfl) c _ M4 n4 _ _ E ok ow st5 lo5 (fun ρ6 m6 M6 h6 tk6 n6 st6 lo6 _ sb6 e6 => ?_) (fun _ _ _ _ _ _ _ _ _ f _ => f.elim))
    case e4 => kt_at_get
    case k4 => kernel_rfl
    subst e6
    refine wpAny_execs_cons (Ex1.set (w := w) (d := 200) (R := fun _ => False) (a := .int (min (max z 0) 10000 * 255)) ?e5 ?k5 (by intro _; with_unfolding_all rfl) c m6 M6 n6 _ _ E ok ow st6 lo6 (fun ρ7 m7 M7 h7 tk7 n7 st7 lo7 _ sb7 e7 => ?_) (fun _ _ _ _ _ _ _ _ _ f _ => f.elim))
    case e5 => kt_at_get
    case k5 => kernel_rfl
    subst e7
    dsimp only
    have hoct : rnd (clp (z * 100) * 255) = (2 * (min (max z 0) 10000 * 255) + 10000).fdiv 20000 := by
      rw [Int.fdiv_eq_ediv_of_nonneg _ (by decide)]
      unfold rnd clp
      omega
    refine' wpAny_execs_cons (Ex1.ife (w := w) (d := 200) (N := fun ρ' => Lk ρ' (Str.ofString "numbers") (.lst (xs.map fun t => .dec (t * 10000)))) (R := fun _ => False) (P := (· = false)) (Ts.bool (TsB.or_f (Ts.to (Ts.cmp ?u1 ?v1 Do2.nei) ?w1) (TsB.or_f (Ts.to (Ts.cmp ?u2 ?v2 Do2.nei) ?w2) (TsB.or_f (Ts.to (Ts.cmp ?u3 ?v3 Do2.nei) ?w3) TsB.or_nil)))) (fun e => by cases e) (fun _ => Ex.nil ?nn) c m7 M7 n7 _ _ E ok ow st7 lo7 (fun ρ8 m8 M8 h8 tk8 n8 st8 lo8 _ sb8 hm8 => ?nxt) (fun _ _ _ _ _ _ _ _ _ f _ => f.elim))
    case' u1 => kt_at_get
    case' v1 => kt_at_get
    case w1 => rw [hoct]; simp
    case' u2 => kt_at_get
    case' v2 => kt_at_get
    case w2 => decide +kernel
    case' u3 => kt_at_get
    case' v3 => kt_at_get
    case w3 => decide +kernel
    case nn => kt_at_item
    case nxt =>
     dsimp only
     match xs, hxl, hm8 with
     | [x1, x2, x3, x4], _, hm8 =>
     have hX4 : FnX w (80 + 110) 439 [.str rgb, .lst ([x1, x2, x3, x4].map fun t => .dec (t * 10000)), .str gray] := X_col4
     refine' wpAny_execs_cons (wpAny_Return_some (BoolOp_and (ref_call (kd := fun x => List.lookup x _) hout hbase ok st8 lo8 ?r1 ?r2 (.inl ⟨rfl, hX4⟩) fun h9 tk9 n9 st9 sb9 => wpAny_truthy_bool ((if_pos rfl).mpr (BoolOp_and (ref_call hout hbase ok st9 (lo8.up sb9) ?r3 ?r4 (.inl ⟨rfl, X_colN⟩) fun h10 tk10 n10 st10 sb10 => wpAny_truthy_bool ((if_pos rfl).mpr (BoolOp_one (ref_call (a := .lst []) hout hbase ok st10 ((lo8.up sb9).up sb10) ?r5 ?r6 (.inr ⟨rfl, X_count2⟩) fun h11 tk11 n11 st11 sb11 => q _ _ _ _ _ st11)))))))))
     case r1 => kt_at_get
     case r2 => kt_at_method
     case r3 => kt_at_get
     case r4 => kt_at_method
     case r5 => kt_at_get
     case r6 => kt_at_method

end
theorem law_all {w : World} {oc : Value} {od : Option Addr} {name qual : Str} {params : Arguments} {body : List Stmt} {scope : Scope} {dV kV doc pm cdv ct : Value} {an : Option Addr} {osl : Array (Option Value)}
    (ho : List.lookup 501 (hd.heap_39 w.params) = some ⟨oc, od, .func (fnOf name qual params body scope dV kV doc pm an cdv ct), osl⟩) : LawRun w body (fun x => scope.names.lookup x) := by
  obtain ⟨oc', od', name', qual', params', body', scope', dV', kV', doc', pm', an', cdv', ct', osl', ho', hr⟩ := law_ex (w := w)
  have e := Option.some.inj (ho'.symm.trans ho)
  unfold fnOf at e
  cases e
  exact hr
theorem law_go {w : World} {dp un : Nat} {gd : Option (List Code)} {cn : Str} {L a : Addr} {ccd : Value} {A₀ : Around} {h₀ : Heap} {m mg mb : Str → Option Value} {mean : ExcName → Option Value} {s : Shared} {Q : Flow → Shared → Prop} {E : Value → Shared → Prop} {sv : Addr} {vs : List Value} {ns : List Int} {wO : Obj} {v₀ : Option Value}
    {oc : Value} {od : Option Addr} {name qual : Str} {params : Arguments} {body : List Stmt} {scope : Scope} {dV kV doc pm cdv ct : Value} {an : Option Addr} {osl : Array (Option Value)}
    (ho : List.lookup 501 (hd.heap_39 w.params) = some ⟨oc, od, .func (fnOf name qual params body scope dV kV doc pm an cdv ct), osl⟩)
    (K : Below A₀ h₀ [] h₀) (F : Fr h₀ L s.heap m) (X : (hd.heap_39 w.params).In h₀) (N : News h₀ L s.heap [(L + 1, wO)]) (hw : wO.data = .cell v₀) (T : Top hd.view_39 Lo mean mg mb h₀) (hk : scope.kind = .function) (hdp : dp + 200 < recursionLimit) (hun : un + 1700 < cLine) (hL : h₀.IsList sv vs.toArray) (hI : IntsAre vs ns) (hl : ns.length ≤ 63)
    (hm : m (Str.ofString "script") = some (.ref sv)) (hkl : scope.names.lookup (Str.ofString "script") = some .local) (hcl : cellsFrom (L + 1) scope.names [] = [(Str.ofString "pen", L + 1)])
    (ow : PassesOwn (model Pr w) (ktrTop dp un gd cn scope L a ccd [(Str.ofString "pen", L + 1)] []) (envX cn scope L a ccd [(Str.ofString "pen", L + 1)]) E)
    (q : ∀ m' h' tk', Fr h₀ L h' m' → Q (.ret (.bool true)) { s with heap := h', toks := tk' }) :
    wpAny (model Pr w) (ktrTop dp un gd cn scope L a ccd [(Str.ofString "pen", L + 1)] []) (execs body (envX cn scope L a ccd [(Str.ofString "pen", L + 1)])) Q E s := by
  have hp : ∀ x z, List.lookup x [(Str.ofString "pen", L + 1)] = some z → x = Str.ofString "pen" ∧ z = L + 1 := fun x z e => by
    rw [List.lookup_cons] at e
    split at e
    · rename_i h
      exact ⟨by simpa using h, (Option.some.inj e).symm⟩
    · cases e
  refine law_all ho { dp := dp, un := un, gd := gd, cn := cn, cs := scope, L := L, a := a, ccd := ccd, cl := [(Str.ofString "pen", L + 1)], outer := [], A₀ := A₀, base := h₀, h₀ := h₀, mean := mean, mg := mg, mb := mb } m [(L + 1, wO)] [] s Q E sv vs ns rfl rfl ⟨K, X, T, hk, hdp, by show un + 8 * 200 + 100 < cLine; omega⟩ ow ⟨F, N, fun p hp => nomatch hp⟩ ⟨rfl, fun x b hx => ?_, fun x y z e1 e2 => (hp x z e1).1.trans (hp y z e2).1.symm, fun x z e => ?_, fun x e => ?_⟩ hL hI hl fun m' M' h' tk' n' st => q m' h' tk' st.F
  · cases hx with
    | hd => exact .inl ⟨hkl, _, hm, .val _⟩
    | tl _ h => cases h
  · obtain ⟨rfl, rfl⟩ := hp x z e
    exact ⟨[], wO, [], _, rfl, hw, (fun p hp => nomatch hp), fun p hp => nomatch hp⟩
  · have := cellsFrom_some scope.names (L + 1) [] (x := x) (.inl e)
    rw [hcl] at this
    exact this
set_option maxRecDepth 100000 in
set_option maxHeartbeats 4000000 in
theorem law_holds : PySem.Challenge.rw_pb0478_01.Holds := by
  w_on
  refine holds_law h_said fun said => ?_
  refine holds_open (q := hd.view_39) (loose := [Str.ofString "PaperError", Str.ofString "told_objects", Str.ofString "Space"]) (Xt := fun s => xlAt hd.view_39 [] s && recOk PySem.Challenge.rw_pb0478_01.row.records s) (XP := XL hd.view_39 []) (Yf := Hook.obs hkk) (Ya := Hook.val hkk) (YP := Hook.says hkk) (N := 6804) ?hl (Hook.of hkk) (Hook.keeps hkk) (fun s e => xl_of s (Bool.and_eq_true_iff.mp e).1) XL.keeps (by rfl) (by rfl) (by rfl) (fun s e => recFacts_of (Bool.and_eq_true_iff.mp e).2) (by rfl) (by first | assumption | decide +kernel) (by decide +kernel) ⟨rfl, rfl, rfl, rfl, rfl, by decide +kernel⟩ ?hw ?hc
  case hl => exact h_left
  case hw => exact ⟨[.list []], by decide +kernel, by decide +kernel⟩
  k_fill
  intro w s₀ s₁ mg mb G Y fa o pm cd doc dV kV ho hd hcd hD hmg hg args vals as hpre hlay hrd hwl hlo
  have KX := kIn_of Y
  have X := (Ground.X G).1
  have V := (Ground.X G).2
  refine Ground.open G ?_
  intro T B D TE TW
  try (refine guard_noD D (by decide +kernel) ?_; clear D)
  obtain ⟨_, _, M⟩ := bmod_of_top T
  have TA := at_of_top T
  try (obtain ⟨_, _, he, B0⟩ := based_of_top T rfl hmg ho hd; have he' : cd = _ := he; subst he'; clear he)
  clear hmg
  wrow_args hpre hlay hrd hwl hlo
  all_goals (
    first | refine callC_kw (enter_call ?_) | refine enter_call ?_ | refine callC_kw (enter_callW ?_) | refine enter_callW ?_ | w_how
    w_top on
    try refine codeAny_mono ?_ (fun _ _ g => GoodW.toG g)
    have K0 := below_caller (Top.heap T)
    w_call any ho hd hcd hD T F
    clear hd TA
    k_drop
    skip)
  (all_goals try k_fold)
  refine' law_go ?ho ?K ?F ?X ?N ?hw ?T ?hk ?hdp ?hun ?hL ?hI ?hl ?hm ?hkl ?hcl ?ow ?q
  case ho => k_is
  case K => assumption
  case F => assumption
  case X => assumption
  case N => assumption
  case hw => assumption
  case T => assumption
  case hk => rfl
  case hdp => ktr_room
  case hun => ktr_units
  case hL => assumption
  case hI => assumption
  case hl => omega
  case hm => with_unfolding_all rfl
  case hkl => kernel_rfl
  case hcl => with_unfolding_all rfl
  case ow => passes_own
  case q => 
    intro m' h' tk' F'
    (try dsimp only)
    (repeat' (first | (k_unfold; (try dsimp only)) | (k_end; wrow_close) | walk1 | (dsimp only; walk1)))
end Mine
theorem PySem.Challenge.cw_pb0478_01_holds : PySem.Challenge.rw_pb0478_01.Holds :=
  Mine.law_holds
