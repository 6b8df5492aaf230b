import PyProof.Rows.All
import Wide.All
import OpenK.AllK
import Wide.FinOn
import Lean
import PySem.Challenge.RW_og0006_01
set_option compiler.extract_closed false
open PySem PySem.W PyProof.Rows
set_option Elab.async false
namespace Mine
set_option linter.unusedVariables false
set_option maxRecDepth 100000
set_option linter.unusedVariables false
abbrev PP : Program := PySem.Challenge.pw_og0006_01
noncomputable def fnsOf : Nat → List Stmt → List (Arguments × List Stmt × Scope)
  | 0, _ => []
  | _, [] => []
  | n + 1, .FunctionDef _ a b _ _ _ sc _ _ _ :: r => (a, b, sc) :: fnsOf n r
  | n + 1, .ClassDef _ _ _ b _ _ _ _ _ _ _ :: r => fnsOf n b ++ fnsOf n r
  | n + 1, _ :: r => fnsOf n r
noncomputable def fnAt (i : Nat) : Arguments × List Stmt × Scope := match (fnsOf 99 PP.main.body).drop i with | x :: _ => x | [] => default
noncomputable def fA (i : Nat) : Arguments := (fnAt i).1
noncomputable def fB (i : Nat) : List Stmt := (fnAt i).2.1
noncomputable def fS (i : Nat) : Scope := (fnAt i).2.2
noncomputable def envT : Env := { scope := PP.main.scope, locals := mainNs, globals := mainNs, cells := [], code := Value.ref 13, frame := some 14 }
noncomputable def bodyT : List Stmt := behindTheImports PP
noncomputable def cT : Code := .body bodyT envT
noncomputable def BT0 : List Frame := [topFrame { line := 0, col := 0, endLine := 0, endCol := 0 }]
noncomputable def annT : Option Value := some (Value.ref 6)
noncomputable def o0 (P : Params) : Obj := { cls := Value.type "tuple", data := Data.seq #[] }
noncomputable def o1 (P : Params) : Obj := { cls := Value.none, data := Data.fields #[] }
noncomputable def o2 (P : Params) : Obj := { cls := Value.type "code", data := Data.fields #[Value.str (Str.ofString "<module>") 182, Value.str (Str.ofString "<module>") 183, Value.str (Str.ofString "/claim/cut.py") 184, Value.int 1 0, Value.int 0 0, Value.int 0 0, Value.int 0 0, Value.int 0 0, Value.ref 11, Value.bool Bool.false, Value.int 181 0, Value.ref 12, Value.none, Value.none, Value.none, Value.none, Value.int 185 0, Value.int 1 0, Value.str (Str.ofString "/claim/cut.py") 186] }
noncomputable def o3 (P : Params) : Obj := { cls := Value.type "frame", slots := #[some (Value.ref 13), some (Value.ref 3), some (Value.ref 3), none, some (Value.str (Str.ofString "__main__") 164), none, some (Value.ref 0)] }
noncomputable def heapA (P : Params) : Heap := ⟨⟨[boot_o_0 P, boot_o_1 P, boot_o_2 P, boot_o_3 P, boot_o_4 P, boot_o_5 P, boot_o_6 P, boot_o_7 P, boot_o_8 P, boot_o_9 P, boot_o_10 P, o0 P, o1 P, o2 P, o3 P]⟩, { }⟩
noncomputable def stA (w : World) (os : OsState) : Shared := ⟨heapA w.params, ⟨[]⟩, { }, 187, os⟩
noncomputable def tree0 (P : Params) : BT := (.node (boot_o_0 P) (.node (boot_o_1 P) (.node (boot_o_3 P) (.node (boot_o_7 P) .nil .nil) (.node (o0 P) .nil .nil)) (.node (boot_o_5 P) (.node (boot_o_9 P) .nil .nil) (.node (o2 P) .nil .nil))) (.node (boot_o_2 P) (.node (boot_o_4 P) (.node (boot_o_8 P) .nil .nil) (.node (o1 P) .nil .nil)) (.node (boot_o_6 P) (.node (boot_o_10 P) .nil .nil) (.node (o3 P) .nil .nil))))
noncomputable def st0 (w : World) (os : OsState) : SharedT := ⟨tree0 w.params, 15, { }, ⟨[]⟩, { }, 187, os⟩
noncomputable def o4 (P : Params) : Obj := { cls := Value.none, data := Data.dict #[{ hash := PyData.keyHash P (Str.ofString "type.__subclasses__.Exception.0"), key := Value.str (Str.ofString "type.__subclasses__.Exception.0") 223, val := Value.int 39 0 }, { hash := PyData.keyHash P (Str.ofString "type.__subclasses__.Exception.n"), key := Value.str (Str.ofString "type.__subclasses__.Exception.n") 224, val := Value.int 1 0 }] 2 }
noncomputable def o5 (P : Params) : Obj := { cls := Value.type "dict", data := Data.dict #[{ hash := PyData.keyHash P (Str.ofString "__name__"), key := Value.str (Str.ofString "__name__") 165, val := Value.str (Str.ofString "lazycore.nodes") 243 }, { hash := PyData.keyHash P (Str.ofString "__doc__"), key := Value.str (Str.ofString "__doc__") 166, val := Value.none }, { hash := PyData.keyHash P (Str.ofString "__package__"), key := Value.str (Str.ofString "__package__") 167, val := Value.none }, { hash := PyData.keyHash P (Str.ofString "__loader__"), key := Value.str (Str.ofString "__loader__") 168, val := Value.builtin "__main__.__loader__#opaque" }, { hash := PyData.keyHash P (Str.ofString "__spec__"), key := Value.str (Str.ofString "__spec__") 169, val := Value.none }, { hash := PyData.keyHash P (Str.ofString "__annotations__"), key := Value.str (Str.ofString "__annotations__") 170, val := Value.ref 6 }, { hash := PyData.keyHash P (Str.ofString "__builtins__"), key := Value.str (Str.ofString "__builtins__") 171, val := Value.ref 4 }, { hash := PyData.keyHash P (Str.ofString "__file__"), key := Value.str (Str.ofString "__file__") 173, val := Value.str (Str.ofString "/claim/cut.py") 172 }, { hash := PyData.keyHash P (Str.ofString "__cached__"), key := Value.str (Str.ofString "__cached__") 174, val := Value.none }, { hash := PyData.keyHash P (Str.ofString "_wall"), key := Value.str (Str.ofString "_wall") 193, val := Value.ref 21 }, { hash := PyData.keyHash P (Str.ofString "LazyError"), key := Value.str (Str.ofString "LazyError") 226, val := Value.ref 39 }, { hash := PyData.keyHash P (Str.ofString "FixityError"), key := Value.str (Str.ofString "FixityError") 242, val := Value.ref 52 }, { hash := PyData.keyHash P (Str.ofString "rows_of"), key := Value.str (Str.ofString "rows_of") 250, val := Value.ref 59 }] 13 }
noncomputable def o6 (P : Params) : Obj := { cls := Value.none, data := Data.fields #[Value.int 1 0, Value.int 0 0, Value.ref 20, Value.int 5 0, Value.int 0 0, Value.ref 27, Value.int 11 0, Value.int 0 0, Value.ref 48, Value.int 14 0, Value.int 0 0, Value.ref 58] }
noncomputable def o7 (P : Params) : Obj := { cls := Value.type "tuple", data := Data.seq #[] }
noncomputable def o8 (P : Params) : Obj := { cls := Value.none, data := Data.fields #[] }
noncomputable def o9 (P : Params) : Obj := { cls := Value.type "tuple", data := Data.seq #[Value.str (Str.ofString "k") 190] }
noncomputable def o10 (P : Params) : Obj := { cls := Value.type "tuple", data := Data.seq #[] }
noncomputable def o11r (P : Params) : Obj := { cls := Value.none, data := Data.func { name := Str.ofString "_wall", qualname := Str.ofString "_wall", params := fA 0, body := FuncBody.stmts (fB 0), scope := fS 0, globals := 0, closure := [], defaults := Value.none, kwdefaults := Value.none } }
noncomputable def o11 : Params → Obj := by
  refine' (?f : (K : Params → Obj) → (∀ P, K P = o11r P) → (Params → Obj)) _ ?h
  case f => exact fun K _ => K
  case h =>
    intro P
    conv =>
      rhs
      delta o11r
      conv => pattern (occs := *) fB _; all_goals whnf
      conv => pattern (occs := *) fA _; all_goals whnf
      conv => pattern (occs := *) fS _; all_goals whnf
noncomputable def o12 (P : Params) : Obj := { cls := Value.type "code", data := Data.fields #[Value.str (Str.ofString "_wall") 187, Value.str (Str.ofString "_wall") 188, Value.str (Str.ofString "/claim/cut.py") 189, Value.int 1 0, Value.int 1 0, Value.int 0 0, Value.int 0 0, Value.int 3 0, Value.ref 15, Value.bool Bool.true, Value.int 181 0, Value.ref 16, Value.none, Value.ref 17, Value.ref 18, Value.ref 19, Value.int 191 0, Value.int 1 0, Value.str (Str.ofString "/claim/cut.py") 192] }
noncomputable def o13r (P : Params) : Obj := { cls := Value.type "function", data := Data.func { name := Str.ofString "_wall", qualname := Str.ofString "_wall", params := fA 0, body := FuncBody.stmts (fB 0), scope := fS 0, globals := 3, closure := [], defaults := Value.none, kwdefaults := Value.none, pyModule := Value.str (Str.ofString "__main__") 164, code := Value.ref 20 } }
noncomputable def o13 : Params → Obj := by
  refine' (?f : (K : Params → Obj) → (∀ P, K P = o13r P) → (Params → Obj)) _ ?h
  case f => exact fun K _ => K
  case h =>
    intro P
    conv =>
      rhs
      delta o13r
      conv => pattern (occs := *) fB _; all_goals whnf
      conv => pattern (occs := *) fA _; all_goals whnf
      conv => pattern (occs := *) fS _; all_goals whnf
noncomputable def o14 (P : Params) : Obj := { cls := Value.type "tuple", data := Data.seq #[Value.type "Exception"] }
noncomputable def o15 (P : Params) : Obj := { cls := Value.type "builtin_function_or_method", data := Data.fields #[Value.builtin "type.__prepare__", Value.type "type"] }
noncomputable def o16 (P : Params) : Obj := { cls := Value.type "dict", data := Data.dict #[{ hash := PyData.keyHash P (Str.ofString "__module__"), key := Value.str (Str.ofString "__module__") 203, val := Value.str (Str.ofString "lazycore.errors") 194 }, { hash := PyData.keyHash P (Str.ofString "__qualname__"), key := Value.str (Str.ofString "__qualname__") 205, val := Value.str (Str.ofString "LazyError") 204 }, { hash := PyData.keyHash P (Str.ofString "__firstlineno__"), key := Value.str (Str.ofString "__firstlineno__") 207, val := Value.int 5 206 }, { hash := PyData.keyHash P (Str.ofString "__init__"), key := Value.str (Str.ofString "__init__") 216, val := Value.ref 36 }, { hash := PyData.keyHash P (Str.ofString "__static_attributes__"), key := Value.str (Str.ofString "__static_attributes__") 219, val := Value.ref 37 }] 5 }
noncomputable def o17 (P : Params) : Obj := { cls := Value.type "tuple", data := Data.seq #[] }
noncomputable def o18 (P : Params) : Obj := { cls := Value.none, data := Data.fields #[Value.int 7 0, Value.int 4 0, Value.ref 35] }
noncomputable def o19 (P : Params) : Obj := { cls := Value.type "code", data := Data.fields #[Value.str (Str.ofString "LazyError") 198, Value.str (Str.ofString "LazyError") 199, Value.str (Str.ofString "/claim/cut.py") 200, Value.int 5 0, Value.int 0 0, Value.int 0 0, Value.int 0 0, Value.int 0 0, Value.ref 25, Value.bool Bool.false, Value.int 181 0, Value.ref 26, Value.none, Value.none, Value.none, Value.none, Value.int 201 0, Value.int 5 0, Value.str (Str.ofString "/claim/cut.py") 202] }
noncomputable def o20 (P : Params) : Obj := { cls := Value.type "frame", slots := #[some (Value.ref 27), some (Value.ref 3), some (Value.ref 24), none, some (Value.str (Str.ofString "lazycore.errors") 194), none, some (Value.ref 0)] }
noncomputable def o21 (P : Params) : Obj := { cls := Value.type "tuple", data := Data.seq #[Value.none] }
noncomputable def o22 (P : Params) : Obj := { cls := Value.type "tuple", data := Data.seq #[] }
noncomputable def o23 (P : Params) : Obj := { cls := Value.none, data := Data.fields #[] }
noncomputable def o24 (P : Params) : Obj := { cls := Value.type "tuple", data := Data.seq #[Value.str (Str.ofString "self") 211, Value.str (Str.ofString "message") 212, Value.str (Str.ofString "place") 213] }
noncomputable def o25 (P : Params) : Obj := { cls := Value.type "tuple", data := Data.seq #[] }
noncomputable def o26r (P : Params) : Obj := { cls := Value.none, data := Data.func { name := Str.ofString "__init__", qualname := Str.ofString "LazyError.__init__", params := fA 1, body := FuncBody.stmts (fB 1), scope := fS 1, globals := 0, closure := [], defaults := Value.none, kwdefaults := Value.none } }
noncomputable def o26 : Params → Obj := by
  refine' (?f : (K : Params → Obj) → (∀ P, K P = o26r P) → (Params → Obj)) _ ?h
  case f => exact fun K _ => K
  case h =>
    intro P
    conv =>
      rhs
      delta o26r
      conv => pattern (occs := *) fB _; all_goals whnf
      conv => pattern (occs := *) fA _; all_goals whnf
      conv => pattern (occs := *) fS _; all_goals whnf
noncomputable def o27 (P : Params) : Obj := { cls := Value.type "code", data := Data.fields #[Value.str (Str.ofString "__init__") 208, Value.str (Str.ofString "LazyError.__init__") 209, Value.str (Str.ofString "/claim/cut.py") 210, Value.int 7 0, Value.int 3 0, Value.int 0 0, Value.int 0 0, Value.int 3 0, Value.ref 30, Value.bool Bool.true, Value.int 181 0, Value.ref 31, Value.none, Value.ref 32, Value.ref 33, Value.ref 34, Value.int 214 0, Value.int 7 0, Value.str (Str.ofString "/claim/cut.py") 215] }
noncomputable def o28r (P : Params) : Obj := { cls := Value.type "function", data := Data.func { name := Str.ofString "__init__", qualname := Str.ofString "LazyError.__init__", params := fA 1, body := FuncBody.stmts (fB 1), scope := fS 1, globals := 3, closure := [], defaults := Value.ref 29, kwdefaults := Value.none, pyModule := Value.str (Str.ofString "lazycore.errors") 194, code := Value.ref 35 } }
noncomputable def o28 : Params → Obj := by
  refine' (?f : (K : Params → Obj) → (∀ P, K P = o28r P) → (Params → Obj)) _ ?h
  case f => exact fun K _ => K
  case h =>
    intro P
    conv =>
      rhs
      delta o28r
      conv => pattern (occs := *) fB _; all_goals whnf
      conv => pattern (occs := *) fA _; all_goals whnf
      conv => pattern (occs := *) fS _; all_goals whnf
noncomputable def o29 (P : Params) : Obj := { cls := Value.type "tuple", data := Data.seq #[Value.str (Str.ofString "message") 217, Value.str (Str.ofString "place") 218] }
noncomputable def o30 (P : Params) : Obj := { cls := Value.type "dict", data := Data.dict #[{ hash := PyData.keyHash P (Str.ofString "__module__"), key := Value.str (Str.ofString "__module__") 203, val := Value.str (Str.ofString "lazycore.errors") 194 }, { hash := PyData.keyHash P (Str.ofString "__firstlineno__"), key := Value.str (Str.ofString "__firstlineno__") 207, val := Value.int 5 206 }, { hash := PyData.keyHash P (Str.ofString "__init__"), key := Value.str (Str.ofString "__init__") 216, val := Value.ref 36 }, { hash := PyData.keyHash P (Str.ofString "__static_attributes__"), key := Value.str (Str.ofString "__static_attributes__") 219, val := Value.ref 37 }, { hash := PyData.keyHash P (Str.ofString "__weakref__"), key := Value.str (Str.ofString "__weakref__") 221, val := Value.ref 40 }, { hash := PyData.keyHash P (Str.ofString "__doc__"), key := Value.str (Str.ofString "__doc__") 222, val := Value.none }] 3 }
noncomputable def o31 (P : Params) : Obj := { cls := Value.type "type", data := Data.cls { name := Str.ofString "LazyError", bases := [Value.type "Exception"], mro := [Value.ref 39, Value.type "Exception", Value.type "BaseException", Value.type "object"], ns := 38, qualname := Str.ofString "LazyError", subclasses := [Value.ref 52] }, slots := #[some (Value.ref 22), none, some (Value.str (Str.ofString "LazyError") 196), some (Value.str (Str.ofString "LazyError") 204), some (Value.builtin "Exception.__new__"), some (Value.bool Bool.true)] }
noncomputable def o32 (P : Params) : Obj := { cls := Value.type "getset_descriptor", data := Data.fields #[Value.str (Str.ofString "__weakref__") 220, Value.ref 39, Value.builtin "ExceptionGroup.__weakref__", Value.none] }
noncomputable def o33 (P : Params) : Obj := { cls := Value.type "super", data := Data.fields #[Value.ref 39, Value.ref 39, Value.ref 39] }
noncomputable def o34 (P : Params) : Obj := { cls := Value.type "builtin_function_or_method", data := Data.fields #[Value.builtin "object.__init_subclass__", Value.ref 39] }
noncomputable def o35 (P : Params) : Obj := { cls := Value.type "tuple", data := Data.seq #[Value.ref 39] }
noncomputable def o36 (P : Params) : Obj := { cls := Value.type "builtin_function_or_method", data := Data.fields #[Value.builtin "type.__prepare__", Value.type "type"] }
noncomputable def o37 (P : Params) : Obj := { cls := Value.type "dict", data := Data.dict #[{ hash := PyData.keyHash P (Str.ofString "__module__"), key := Value.str (Str.ofString "__module__") 234, val := Value.str (Str.ofString "lazycore.errors") 194 }, { hash := PyData.keyHash P (Str.ofString "__qualname__"), key := Value.str (Str.ofString "__qualname__") 236, val := Value.str (Str.ofString "FixityError") 235 }, { hash := PyData.keyHash P (Str.ofString "__firstlineno__"), key := Value.str (Str.ofString "__firstlineno__") 238, val := Value.int 11 237 }, { hash := PyData.keyHash P (Str.ofString "__static_attributes__"), key := Value.str (Str.ofString "__static_attributes__") 239, val := Value.ref 50 }] 4 }
noncomputable def o38 (P : Params) : Obj := { cls := Value.type "tuple", data := Data.seq #[] }
noncomputable def o39 (P : Params) : Obj := { cls := Value.none, data := Data.fields #[] }
noncomputable def o40 (P : Params) : Obj := { cls := Value.type "code", data := Data.fields #[Value.str (Str.ofString "FixityError") 229, Value.str (Str.ofString "FixityError") 230, Value.str (Str.ofString "/claim/cut.py") 231, Value.int 11 0, Value.int 0 0, Value.int 0 0, Value.int 0 0, Value.int 0 0, Value.ref 46, Value.bool Bool.false, Value.int 181 0, Value.ref 47, Value.none, Value.none, Value.none, Value.none, Value.int 232 0, Value.int 11 0, Value.str (Str.ofString "/claim/cut.py") 233] }
noncomputable def o41 (P : Params) : Obj := { cls := Value.type "frame", slots := #[some (Value.ref 48), some (Value.ref 3), some (Value.ref 45), none, some (Value.str (Str.ofString "lazycore.errors") 194), none, some (Value.ref 0)] }
noncomputable def o42 (P : Params) : Obj := { cls := Value.type "tuple", data := Data.seq #[] }
noncomputable def o43 (P : Params) : Obj := { cls := Value.type "dict", data := Data.dict #[{ hash := PyData.keyHash P (Str.ofString "__module__"), key := Value.str (Str.ofString "__module__") 234, val := Value.str (Str.ofString "lazycore.errors") 194 }, { hash := PyData.keyHash P (Str.ofString "__firstlineno__"), key := Value.str (Str.ofString "__firstlineno__") 238, val := Value.int 11 237 }, { hash := PyData.keyHash P (Str.ofString "__static_attributes__"), key := Value.str (Str.ofString "__static_attributes__") 239, val := Value.ref 50 }, { hash := PyData.keyHash P (Str.ofString "__doc__"), key := Value.str (Str.ofString "__doc__") 240, val := Value.none }] 2 }
noncomputable def o44 (P : Params) : Obj := { cls := Value.type "type", data := Data.cls { name := Str.ofString "FixityError", bases := [Value.ref 39], mro := [Value.ref 52, Value.ref 39, Value.type "Exception", Value.type "BaseException", Value.type "object"], ns := 51, qualname := Str.ofString "FixityError" }, slots := #[some (Value.ref 43), none, some (Value.str (Str.ofString "FixityError") 227), some (Value.str (Str.ofString "FixityError") 235), some (Value.builtin "Exception.__new__"), some (Value.bool Bool.true)] }
noncomputable def o45 (P : Params) : Obj := { cls := Value.type "super", data := Data.fields #[Value.ref 52, Value.ref 52, Value.ref 52] }
noncomputable def o46 (P : Params) : Obj := { cls := Value.type "builtin_function_or_method", data := Data.fields #[Value.builtin "object.__init_subclass__", Value.ref 52] }
noncomputable def o47 (P : Params) : Obj := { cls := Value.type "tuple", data := Data.seq #[] }
noncomputable def o48 (P : Params) : Obj := { cls := Value.none, data := Data.fields #[] }
noncomputable def o49r (P : Params) : Obj := { cls := Value.none, data := Data.func { name := Str.ofString "rows_of", qualname := Str.ofString "rows_of", params := fA 2, body := FuncBody.stmts (fB 2), scope := fS 2, globals := 0, closure := [], defaults := Value.none, kwdefaults := Value.none } }
noncomputable def o49 : Params → Obj := by
  refine' (?f : (K : Params → Obj) → (∀ P, K P = o49r P) → (Params → Obj)) _ ?h
  case f => exact fun K _ => K
  case h =>
    intro P
    conv =>
      rhs
      delta o49r
      conv => pattern (occs := *) fB _; all_goals whnf
      conv => pattern (occs := *) fA _; all_goals whnf
      conv => pattern (occs := *) fS _; all_goals whnf
noncomputable def o50 (P : Params) : Obj := { cls := Value.type "code", data := Data.fields #[Value.str (Str.ofString "rows_of") 245, Value.str (Str.ofString "rows_of") 246, Value.str (Str.ofString "/claim/cut.py") 247, Value.int 14 0, Value.int 1 0, Value.int 0 0, Value.int 0 0, Value.int 3 0, Value.ref 55, Value.bool Bool.true, Value.int 181 0, Value.ref 56, Value.none, Value.none, Value.none, Value.ref 57, Value.int 248 0, Value.int 14 0, Value.str (Str.ofString "/claim/cut.py") 249] }
noncomputable def o51r (P : Params) : Obj := { cls := Value.type "function", data := Data.func { name := Str.ofString "rows_of", qualname := Str.ofString "rows_of", params := fA 2, body := FuncBody.stmts (fB 2), scope := fS 2, globals := 3, closure := [], defaults := Value.none, kwdefaults := Value.none, pyModule := Value.str (Str.ofString "lazycore.nodes") 243, code := Value.ref 58 } }
noncomputable def o51 : Params → Obj := by
  refine' (?f : (K : Params → Obj) → (∀ P, K P = o51r P) → (Params → Obj)) _ ?h
  case f => exact fun K _ => K
  case h =>
    intro P
    conv =>
      rhs
      delta o51r
      conv => pattern (occs := *) fB _; all_goals whnf
      conv => pattern (occs := *) fA _; all_goals whnf
      conv => pattern (occs := *) fS _; all_goals whnf
noncomputable def tree1 (P : Params) : BT := (.node (boot_o_0 P) (.node (boot_o_1 P) (.node (o5 P) (.node (boot_o_7 P) (.node (o7 P) (.node (o23 P) .nil .nil) (.node (o39 P) .nil .nil)) (.node (o15 P) (.node (o31 P) .nil .nil) (.node (o47 P) .nil .nil))) (.node (o0 P) (.node (o11 P) (.node (o27 P) .nil .nil) (.node (o43 P) .nil .nil)) (.node (o19 P) (.node (o35 P) .nil .nil) (.node (o51 P) .nil .nil)))) (.node (boot_o_5 P) (.node (boot_o_9 P) (.node (o9 P) (.node (o25 P) .nil .nil) (.node (o41 P) .nil .nil)) (.node (o17 P) (.node (o33 P) .nil .nil) (.node (o49 P) .nil .nil))) (.node (o2 P) (.node (o13 P) (.node (o29 P) .nil .nil) (.node (o45 P) .nil .nil)) (.node (o21 P) (.node (o37 P) .nil .nil) .nil)))) (.node (o4 P) (.node (boot_o_4 P) (.node (boot_o_8 P) (.node (o8 P) (.node (o24 P) .nil .nil) (.node (o40 P) .nil .nil)) (.node (o16 P) (.node (o32 P) .nil .nil) (.node (o48 P) .nil .nil))) (.node (o6 P) (.node (o12 P) (.node (o28 P) .nil .nil) (.node (o44 P) .nil .nil)) (.node (o20 P) (.node (o36 P) .nil .nil) .nil))) (.node (boot_o_6 P) (.node (boot_o_10 P) (.node (o10 P) (.node (o26 P) .nil .nil) (.node (o42 P) .nil .nil)) (.node (o18 P) (.node (o34 P) .nil .nil) (.node (o50 P) .nil .nil))) (.node (o3 P) (.node (o14 P) (.node (o30 P) .nil .nil) (.node (o46 P) .nil .nil)) (.node (o22 P) (.node (o38 P) .nil .nil) .nil)))))
noncomputable def st1 (w : World) (os : OsState) : SharedT := ⟨tree1 w.params, 60, { }, ⟨[]⟩, { }, 251, os⟩
noncomputable def sts1 : List Stmt := (bodyT.drop 0).take 6
noncomputable def o52 (P : Params) : Obj := { cls := Value.type "dict", data := Data.dict #[{ hash := PyData.keyHash P (Str.ofString "__name__"), key := Value.str (Str.ofString "__name__") 165, val := Value.str (Str.ofString "lazycore.operators") 322 }, { hash := PyData.keyHash P (Str.ofString "__doc__"), key := Value.str (Str.ofString "__doc__") 166, val := Value.none }, { hash := PyData.keyHash P (Str.ofString "__package__"), key := Value.str (Str.ofString "__package__") 167, val := Value.none }, { hash := PyData.keyHash P (Str.ofString "__loader__"), key := Value.str (Str.ofString "__loader__") 168, val := Value.builtin "__main__.__loader__#opaque" }, { hash := PyData.keyHash P (Str.ofString "__spec__"), key := Value.str (Str.ofString "__spec__") 169, val := Value.none }, { hash := PyData.keyHash P (Str.ofString "__annotations__"), key := Value.str (Str.ofString "__annotations__") 170, val := Value.ref 6 }, { hash := PyData.keyHash P (Str.ofString "__builtins__"), key := Value.str (Str.ofString "__builtins__") 171, val := Value.ref 4 }, { hash := PyData.keyHash P (Str.ofString "__file__"), key := Value.str (Str.ofString "__file__") 173, val := Value.str (Str.ofString "/claim/cut.py") 172 }, { hash := PyData.keyHash P (Str.ofString "__cached__"), key := Value.str (Str.ofString "__cached__") 174, val := Value.none }, { hash := PyData.keyHash P (Str.ofString "_wall"), key := Value.str (Str.ofString "_wall") 193, val := Value.ref 21 }, { hash := PyData.keyHash P (Str.ofString "LazyError"), key := Value.str (Str.ofString "LazyError") 226, val := Value.ref 39 }, { hash := PyData.keyHash P (Str.ofString "FixityError"), key := Value.str (Str.ofString "FixityError") 242, val := Value.ref 52 }, { hash := PyData.keyHash P (Str.ofString "rows_of"), key := Value.str (Str.ofString "rows_of") 250, val := Value.ref 59 }, { hash := PyData.keyHash P (Str.ofString "Node"), key := Value.str (Str.ofString "Node") 286, val := Value.ref 83 }, { hash := PyData.keyHash P (Str.ofString "Op"), key := Value.str (Str.ofString "Op") 321, val := Value.ref 112 }, { hash := PyData.keyHash P (Str.ofString "COLON"), key := Value.str (Str.ofString "COLON") 325, val := Value.str (Str.ofString ":") 324 }] 16 }
noncomputable def o53 (P : Params) : Obj := { cls := Value.none, data := Data.fields #[Value.int 1 0, Value.int 0 0, Value.ref 20, Value.int 5 0, Value.int 0 0, Value.ref 27, Value.int 11 0, Value.int 0 0, Value.ref 48, Value.int 14 0, Value.int 0 0, Value.ref 58, Value.int 16 0, Value.int 0 0, Value.ref 65, Value.int 23 0, Value.int 0 0, Value.ref 93] }
noncomputable def o54 (P : Params) : Obj := { cls := Value.type "tuple", data := Data.seq #[] }
noncomputable def o55 (P : Params) : Obj := { cls := Value.type "builtin_function_or_method", data := Data.fields #[Value.builtin "type.__prepare__", Value.type "type"] }
noncomputable def o56 (P : Params) : Obj := { cls := Value.type "dict", data := Data.dict #[{ hash := PyData.keyHash P (Str.ofString "__module__"), key := Value.str (Str.ofString "__module__") 258, val := Value.str (Str.ofString "lazycore.nodes") 243 }, { hash := PyData.keyHash P (Str.ofString "__qualname__"), key := Value.str (Str.ofString "__qualname__") 260, val := Value.str (Str.ofString "Node") 259 }, { hash := PyData.keyHash P (Str.ofString "__firstlineno__"), key := Value.str (Str.ofString "__firstlineno__") 262, val := Value.int 16 261 }, { hash := PyData.keyHash P (Str.ofString "__init__"), key := Value.str (Str.ofString "__init__") 270, val := Value.ref 73 }, { hash := PyData.keyHash P (Str.ofString "row"), key := Value.str (Str.ofString "row") 277, val := Value.ref 80 }, { hash := PyData.keyHash P (Str.ofString "__static_attributes__"), key := Value.str (Str.ofString "__static_attributes__") 279, val := Value.ref 81 }] 6 }
noncomputable def o57 (P : Params) : Obj := { cls := Value.type "tuple", data := Data.seq #[] }
noncomputable def o58 (P : Params) : Obj := { cls := Value.none, data := Data.fields #[Value.int 18 0, Value.int 4 0, Value.ref 72, Value.int 21 0, Value.int 4 0, Value.ref 79] }
noncomputable def o59 (P : Params) : Obj := { cls := Value.type "code", data := Data.fields #[Value.str (Str.ofString "Node") 253, Value.str (Str.ofString "Node") 254, Value.str (Str.ofString "/claim/cut.py") 255, Value.int 16 0, Value.int 0 0, Value.int 0 0, Value.int 0 0, Value.int 0 0, Value.ref 63, Value.bool Bool.false, Value.int 181 0, Value.ref 64, Value.none, Value.none, Value.none, Value.none, Value.int 256 0, Value.int 16 0, Value.str (Str.ofString "/claim/cut.py") 257] }
noncomputable def o60 (P : Params) : Obj := { cls := Value.type "frame", slots := #[some (Value.ref 65), some (Value.ref 3), some (Value.ref 62), none, some (Value.str (Str.ofString "lazycore.nodes") 243), none, some (Value.ref 0)] }
noncomputable def o61 (P : Params) : Obj := { cls := Value.type "tuple", data := Data.seq #[] }
noncomputable def o62 (P : Params) : Obj := { cls := Value.none, data := Data.fields #[] }
noncomputable def o63 (P : Params) : Obj := { cls := Value.type "tuple", data := Data.seq #[Value.str (Str.ofString "self") 266, Value.str (Str.ofString "place") 267] }
noncomputable def o64 (P : Params) : Obj := { cls := Value.type "tuple", data := Data.seq #[] }
noncomputable def o65r (P : Params) : Obj := { cls := Value.none, data := Data.func { name := Str.ofString "__init__", qualname := Str.ofString "Node.__init__", params := fA 3, body := FuncBody.stmts (fB 3), scope := fS 3, globals := 0, closure := [], defaults := Value.none, kwdefaults := Value.none } }
noncomputable def o65 : Params → Obj := by
  refine' (?f : (K : Params → Obj) → (∀ P, K P = o65r P) → (Params → Obj)) _ ?h
  case f => exact fun K _ => K
  case h =>
    intro P
    conv =>
      rhs
      delta o65r
      conv => pattern (occs := *) fB _; all_goals whnf
      conv => pattern (occs := *) fA _; all_goals whnf
      conv => pattern (occs := *) fS _; all_goals whnf
noncomputable def o66 (P : Params) : Obj := { cls := Value.type "code", data := Data.fields #[Value.str (Str.ofString "__init__") 263, Value.str (Str.ofString "Node.__init__") 264, Value.str (Str.ofString "/claim/cut.py") 265, Value.int 18 0, Value.int 2 0, Value.int 0 0, Value.int 0 0, Value.int 3 0, Value.ref 67, Value.bool Bool.true, Value.int 181 0, Value.ref 68, Value.none, Value.ref 69, Value.ref 70, Value.ref 71, Value.int 268 0, Value.int 18 0, Value.str (Str.ofString "/claim/cut.py") 269] }
noncomputable def o67r (P : Params) : Obj := { cls := Value.type "function", data := Data.func { name := Str.ofString "__init__", qualname := Str.ofString "Node.__init__", params := fA 3, body := FuncBody.stmts (fB 3), scope := fS 3, globals := 3, closure := [], defaults := Value.none, kwdefaults := Value.none, pyModule := Value.str (Str.ofString "lazycore.nodes") 243, code := Value.ref 72 } }
noncomputable def o67 : Params → Obj := by
  refine' (?f : (K : Params → Obj) → (∀ P, K P = o67r P) → (Params → Obj)) _ ?h
  case f => exact fun K _ => K
  case h =>
    intro P
    conv =>
      rhs
      delta o67r
      conv => pattern (occs := *) fB _; all_goals whnf
      conv => pattern (occs := *) fA _; all_goals whnf
      conv => pattern (occs := *) fS _; all_goals whnf
noncomputable def o68 (P : Params) : Obj := { cls := Value.type "tuple", data := Data.seq #[] }
noncomputable def o69 (P : Params) : Obj := { cls := Value.none, data := Data.fields #[] }
noncomputable def o70 (P : Params) : Obj := { cls := Value.type "tuple", data := Data.seq #[Value.str (Str.ofString "self") 274] }
noncomputable def o71 (P : Params) : Obj := { cls := Value.type "tuple", data := Data.seq #[] }
noncomputable def o72r (P : Params) : Obj := { cls := Value.none, data := Data.func { name := Str.ofString "row", qualname := Str.ofString "Node.row", params := fA 4, body := FuncBody.stmts (fB 4), scope := fS 4, globals := 0, closure := [], defaults := Value.none, kwdefaults := Value.none } }
noncomputable def o72 : Params → Obj := by
  refine' (?f : (K : Params → Obj) → (∀ P, K P = o72r P) → (Params → Obj)) _ ?h
  case f => exact fun K _ => K
  case h =>
    intro P
    conv =>
      rhs
      delta o72r
      conv => pattern (occs := *) fB _; all_goals whnf
      conv => pattern (occs := *) fA _; all_goals whnf
      conv => pattern (occs := *) fS _; all_goals whnf
noncomputable def o73 (P : Params) : Obj := { cls := Value.type "code", data := Data.fields #[Value.str (Str.ofString "row") 271, Value.str (Str.ofString "Node.row") 272, Value.str (Str.ofString "/claim/cut.py") 273, Value.int 21 0, Value.int 1 0, Value.int 0 0, Value.int 0 0, Value.int 3 0, Value.ref 74, Value.bool Bool.true, Value.int 181 0, Value.ref 75, Value.none, Value.ref 76, Value.ref 77, Value.ref 78, Value.int 275 0, Value.int 21 0, Value.str (Str.ofString "/claim/cut.py") 276] }
noncomputable def o74r (P : Params) : Obj := { cls := Value.type "function", data := Data.func { name := Str.ofString "row", qualname := Str.ofString "Node.row", params := fA 4, body := FuncBody.stmts (fB 4), scope := fS 4, globals := 3, closure := [], defaults := Value.none, kwdefaults := Value.none, pyModule := Value.str (Str.ofString "lazycore.nodes") 243, code := Value.ref 79 } }
noncomputable def o74 : Params → Obj := by
  refine' (?f : (K : Params → Obj) → (∀ P, K P = o74r P) → (Params → Obj)) _ ?h
  case f => exact fun K _ => K
  case h =>
    intro P
    conv =>
      rhs
      delta o74r
      conv => pattern (occs := *) fB _; all_goals whnf
      conv => pattern (occs := *) fA _; all_goals whnf
      conv => pattern (occs := *) fS _; all_goals whnf
noncomputable def o75 (P : Params) : Obj := { cls := Value.type "tuple", data := Data.seq #[Value.str (Str.ofString "place") 278] }
noncomputable def o76 (P : Params) : Obj := { cls := Value.type "dict", data := Data.dict #[{ hash := PyData.keyHash P (Str.ofString "__module__"), key := Value.str (Str.ofString "__module__") 258, val := Value.str (Str.ofString "lazycore.nodes") 243 }, { hash := PyData.keyHash P (Str.ofString "__firstlineno__"), key := Value.str (Str.ofString "__firstlineno__") 262, val := Value.int 16 261 }, { hash := PyData.keyHash P (Str.ofString "__init__"), key := Value.str (Str.ofString "__init__") 270, val := Value.ref 73 }, { hash := PyData.keyHash P (Str.ofString "row"), key := Value.str (Str.ofString "row") 277, val := Value.ref 80 }, { hash := PyData.keyHash P (Str.ofString "__static_attributes__"), key := Value.str (Str.ofString "__static_attributes__") 279, val := Value.ref 81 }, { hash := PyData.keyHash P (Str.ofString "__dict__"), key := Value.str (Str.ofString "__dict__") 281, val := Value.ref 84 }, { hash := PyData.keyHash P (Str.ofString "__weakref__"), key := Value.str (Str.ofString "__weakref__") 283, val := Value.ref 85 }, { hash := PyData.keyHash P (Str.ofString "__doc__"), key := Value.str (Str.ofString "__doc__") 284, val := Value.none }] 4 }
noncomputable def o77 (P : Params) : Obj := { cls := Value.type "type", data := Data.cls { name := Str.ofString "Node", bases := [Value.type "object"], mro := [Value.ref 83, Value.type "object"], ns := 82, qualname := Str.ofString "Node", subclasses := [Value.ref 112] }, slots := #[none, none, some (Value.str (Str.ofString "Node") 251), some (Value.str (Str.ofString "Node") 259), some (Value.builtin "object.__new__"), some (Value.bool Bool.true)] }
noncomputable def o78 (P : Params) : Obj := { cls := Value.type "getset_descriptor", data := Data.fields #[Value.str (Str.ofString "__dict__") 280, Value.ref 83, Value.builtin "function.__dict__", Value.builtin "function.__dict__#set"] }
noncomputable def o79 (P : Params) : Obj := { cls := Value.type "getset_descriptor", data := Data.fields #[Value.str (Str.ofString "__weakref__") 282, Value.ref 83, Value.builtin "ExceptionGroup.__weakref__", Value.none] }
noncomputable def o80 (P : Params) : Obj := { cls := Value.type "super", data := Data.fields #[Value.ref 83, Value.ref 83, Value.ref 83] }
noncomputable def o81 (P : Params) : Obj := { cls := Value.type "builtin_function_or_method", data := Data.fields #[Value.builtin "object.__init_subclass__", Value.ref 83] }
noncomputable def o82 (P : Params) : Obj := { cls := Value.type "tuple", data := Data.seq #[Value.ref 83] }
noncomputable def o83 (P : Params) : Obj := { cls := Value.type "builtin_function_or_method", data := Data.fields #[Value.builtin "type.__prepare__", Value.type "type"] }
noncomputable def o84 (P : Params) : Obj := { cls := Value.type "dict", data := Data.dict #[{ hash := PyData.keyHash P (Str.ofString "__module__"), key := Value.str (Str.ofString "__module__") 294, val := Value.str (Str.ofString "lazycore.nodes") 243 }, { hash := PyData.keyHash P (Str.ofString "__qualname__"), key := Value.str (Str.ofString "__qualname__") 296, val := Value.str (Str.ofString "Op") 295 }, { hash := PyData.keyHash P (Str.ofString "__firstlineno__"), key := Value.str (Str.ofString "__firstlineno__") 298, val := Value.int 23 297 }, { hash := PyData.keyHash P (Str.ofString "__init__"), key := Value.str (Str.ofString "__init__") 308, val := Value.ref 102 }, { hash := PyData.keyHash P (Str.ofString "row"), key := Value.str (Str.ofString "row") 315, val := Value.ref 109 }, { hash := PyData.keyHash P (Str.ofString "__static_attributes__"), key := Value.str (Str.ofString "__static_attributes__") 318, val := Value.ref 110 }] 6 }
noncomputable def o85 (P : Params) : Obj := { cls := Value.type "tuple", data := Data.seq #[] }
noncomputable def o86 (P : Params) : Obj := { cls := Value.none, data := Data.fields #[Value.int 25 0, Value.int 4 0, Value.ref 101, Value.int 30 0, Value.int 4 0, Value.ref 108] }
noncomputable def o87 (P : Params) : Obj := { cls := Value.type "code", data := Data.fields #[Value.str (Str.ofString "Op") 289, Value.str (Str.ofString "Op") 290, Value.str (Str.ofString "/claim/cut.py") 291, Value.int 23 0, Value.int 0 0, Value.int 0 0, Value.int 0 0, Value.int 0 0, Value.ref 91, Value.bool Bool.false, Value.int 181 0, Value.ref 92, Value.none, Value.none, Value.none, Value.none, Value.int 292 0, Value.int 23 0, Value.str (Str.ofString "/claim/cut.py") 293] }
noncomputable def o88 (P : Params) : Obj := { cls := Value.type "frame", slots := #[some (Value.ref 93), some (Value.ref 3), some (Value.ref 90), none, some (Value.str (Str.ofString "lazycore.nodes") 243), none, some (Value.ref 0)] }
noncomputable def o89 (P : Params) : Obj := { cls := Value.type "tuple", data := Data.seq #[Value.none] }
noncomputable def o90 (P : Params) : Obj := { cls := Value.type "tuple", data := Data.seq #[] }
noncomputable def o91 (P : Params) : Obj := { cls := Value.none, data := Data.fields #[] }
noncomputable def o92 (P : Params) : Obj := { cls := Value.type "tuple", data := Data.seq #[Value.str (Str.ofString "self") 302, Value.str (Str.ofString "name") 303, Value.str (Str.ofString "is_con") 304, Value.str (Str.ofString "place") 305] }
noncomputable def o93 (P : Params) : Obj := { cls := Value.type "tuple", data := Data.seq #[] }
noncomputable def o94r (P : Params) : Obj := { cls := Value.none, data := Data.func { name := Str.ofString "__init__", qualname := Str.ofString "Op.__init__", params := fA 5, body := FuncBody.stmts (fB 5), scope := fS 5, globals := 0, closure := [], defaults := Value.none, kwdefaults := Value.none } }
noncomputable def o94 : Params → Obj := by
  refine' (?f : (K : Params → Obj) → (∀ P, K P = o94r P) → (Params → Obj)) _ ?h
  case f => exact fun K _ => K
  case h =>
    intro P
    conv =>
      rhs
      delta o94r
      conv => pattern (occs := *) fB _; all_goals whnf
      conv => pattern (occs := *) fA _; all_goals whnf
      conv => pattern (occs := *) fS _; all_goals whnf
noncomputable def o95 (P : Params) : Obj := { cls := Value.type "code", data := Data.fields #[Value.str (Str.ofString "__init__") 299, Value.str (Str.ofString "Op.__init__") 300, Value.str (Str.ofString "/claim/cut.py") 301, Value.int 25 0, Value.int 4 0, Value.int 0 0, Value.int 0 0, Value.int 3 0, Value.ref 96, Value.bool Bool.true, Value.int 181 0, Value.ref 97, Value.none, Value.ref 98, Value.ref 99, Value.ref 100, Value.int 306 0, Value.int 25 0, Value.str (Str.ofString "/claim/cut.py") 307] }
noncomputable def o96r (P : Params) : Obj := { cls := Value.type "function", data := Data.func { name := Str.ofString "__init__", qualname := Str.ofString "Op.__init__", params := fA 5, body := FuncBody.stmts (fB 5), scope := fS 5, globals := 3, closure := [], defaults := Value.ref 95, kwdefaults := Value.none, pyModule := Value.str (Str.ofString "lazycore.nodes") 243, code := Value.ref 101 } }
noncomputable def o96 : Params → Obj := by
  refine' (?f : (K : Params → Obj) → (∀ P, K P = o96r P) → (Params → Obj)) _ ?h
  case f => exact fun K _ => K
  case h =>
    intro P
    conv =>
      rhs
      delta o96r
      conv => pattern (occs := *) fB _; all_goals whnf
      conv => pattern (occs := *) fA _; all_goals whnf
      conv => pattern (occs := *) fS _; all_goals whnf
noncomputable def o97 (P : Params) : Obj := { cls := Value.type "tuple", data := Data.seq #[] }
noncomputable def o98 (P : Params) : Obj := { cls := Value.none, data := Data.fields #[] }
noncomputable def o99 (P : Params) : Obj := { cls := Value.type "tuple", data := Data.seq #[Value.str (Str.ofString "self") 312] }
noncomputable def o100 (P : Params) : Obj := { cls := Value.type "tuple", data := Data.seq #[] }
noncomputable def o101r (P : Params) : Obj := { cls := Value.none, data := Data.func { name := Str.ofString "row", qualname := Str.ofString "Op.row", params := fA 6, body := FuncBody.stmts (fB 6), scope := fS 4, globals := 0, closure := [], defaults := Value.none, kwdefaults := Value.none } }
noncomputable def o101 : Params → Obj := by
  refine' (?f : (K : Params → Obj) → (∀ P, K P = o101r P) → (Params → Obj)) _ ?h
  case f => exact fun K _ => K
  case h =>
    intro P
    conv =>
      rhs
      delta o101r
      conv => pattern (occs := *) fB _; all_goals whnf
      conv => pattern (occs := *) fA _; all_goals whnf
      conv => pattern (occs := *) fS _; all_goals whnf
noncomputable def o102 (P : Params) : Obj := { cls := Value.type "code", data := Data.fields #[Value.str (Str.ofString "row") 309, Value.str (Str.ofString "Op.row") 310, Value.str (Str.ofString "/claim/cut.py") 311, Value.int 30 0, Value.int 1 0, Value.int 0 0, Value.int 0 0, Value.int 3 0, Value.ref 103, Value.bool Bool.true, Value.int 181 0, Value.ref 104, Value.none, Value.ref 105, Value.ref 106, Value.ref 107, Value.int 313 0, Value.int 30 0, Value.str (Str.ofString "/claim/cut.py") 314] }
noncomputable def o103r (P : Params) : Obj := { cls := Value.type "function", data := Data.func { name := Str.ofString "row", qualname := Str.ofString "Op.row", params := fA 6, body := FuncBody.stmts (fB 6), scope := fS 4, globals := 3, closure := [], defaults := Value.none, kwdefaults := Value.none, pyModule := Value.str (Str.ofString "lazycore.nodes") 243, code := Value.ref 108 } }
noncomputable def o103 : Params → Obj := by
  refine' (?f : (K : Params → Obj) → (∀ P, K P = o103r P) → (Params → Obj)) _ ?h
  case f => exact fun K _ => K
  case h =>
    intro P
    conv =>
      rhs
      delta o103r
      conv => pattern (occs := *) fB _; all_goals whnf
      conv => pattern (occs := *) fA _; all_goals whnf
      conv => pattern (occs := *) fS _; all_goals whnf
noncomputable def o104 (P : Params) : Obj := { cls := Value.type "tuple", data := Data.seq #[Value.str (Str.ofString "is_con") 316, Value.str (Str.ofString "name") 317] }
noncomputable def o105 (P : Params) : Obj := { cls := Value.type "dict", data := Data.dict #[{ hash := PyData.keyHash P (Str.ofString "__module__"), key := Value.str (Str.ofString "__module__") 294, val := Value.str (Str.ofString "lazycore.nodes") 243 }, { hash := PyData.keyHash P (Str.ofString "__firstlineno__"), key := Value.str (Str.ofString "__firstlineno__") 298, val := Value.int 23 297 }, { hash := PyData.keyHash P (Str.ofString "__init__"), key := Value.str (Str.ofString "__init__") 308, val := Value.ref 102 }, { hash := PyData.keyHash P (Str.ofString "row"), key := Value.str (Str.ofString "row") 315, val := Value.ref 109 }, { hash := PyData.keyHash P (Str.ofString "__static_attributes__"), key := Value.str (Str.ofString "__static_attributes__") 318, val := Value.ref 110 }, { hash := PyData.keyHash P (Str.ofString "__doc__"), key := Value.str (Str.ofString "__doc__") 319, val := Value.none }] 2 }
noncomputable def o106 (P : Params) : Obj := { cls := Value.type "type", data := Data.cls { name := Str.ofString "Op", bases := [Value.ref 83], mro := [Value.ref 112, Value.ref 83, Value.type "object"], ns := 111, qualname := Str.ofString "Op" }, slots := #[some (Value.ref 88), none, some (Value.str (Str.ofString "Op") 287), some (Value.str (Str.ofString "Op") 295), some (Value.builtin "object.__new__"), some (Value.bool Bool.true)] }
noncomputable def o107 (P : Params) : Obj := { cls := Value.type "super", data := Data.fields #[Value.ref 112, Value.ref 112, Value.ref 112] }
noncomputable def o108 (P : Params) : Obj := { cls := Value.type "builtin_function_or_method", data := Data.fields #[Value.builtin "object.__init_subclass__", Value.ref 112] }
noncomputable def tree2 (P : Params) : BT := (.node (boot_o_0 P) (.node (boot_o_1 P) (.node (o52 P) (.node (boot_o_7 P) (.node (o7 P) (.node (o23 P) (.node (o57 P) .nil .nil) (.node (o89 P) .nil .nil)) (.node (o39 P) (.node (o73 P) .nil .nil) (.node (o105 P) .nil .nil))) (.node (o15 P) (.node (o31 P) (.node (o65 P) .nil .nil) (.node (o97 P) .nil .nil)) (.node (o47 P) (.node (o81 P) .nil .nil) .nil))) (.node (o0 P) (.node (o11 P) (.node (o27 P) (.node (o61 P) .nil .nil) (.node (o93 P) .nil .nil)) (.node (o43 P) (.node (o77 P) .nil .nil) .nil)) (.node (o19 P) (.node (o35 P) (.node (o69 P) .nil .nil) (.node (o101 P) .nil .nil)) (.node (o51 P) (.node (o85 P) .nil .nil) .nil)))) (.node (boot_o_5 P) (.node (boot_o_9 P) (.node (o9 P) (.node (o25 P) (.node (o59 P) .nil .nil) (.node (o91 P) .nil .nil)) (.node (o41 P) (.node (o75 P) .nil .nil) (.node (o107 P) .nil .nil))) (.node (o17 P) (.node (o33 P) (.node (o67 P) .nil .nil) (.node (o99 P) .nil .nil)) (.node (o49 P) (.node (o83 P) .nil .nil) .nil))) (.node (o2 P) (.node (o13 P) (.node (o29 P) (.node (o63 P) .nil .nil) (.node (o95 P) .nil .nil)) (.node (o45 P) (.node (o79 P) .nil .nil) .nil)) (.node (o21 P) (.node (o37 P) (.node (o71 P) .nil .nil) (.node (o103 P) .nil .nil)) (.node (o55 P) (.node (o87 P) .nil .nil) .nil))))) (.node (o4 P) (.node (boot_o_4 P) (.node (boot_o_8 P) (.node (o8 P) (.node (o24 P) (.node (o58 P) .nil .nil) (.node (o90 P) .nil .nil)) (.node (o40 P) (.node (o74 P) .nil .nil) (.node (o106 P) .nil .nil))) (.node (o16 P) (.node (o32 P) (.node (o66 P) .nil .nil) (.node (o98 P) .nil .nil)) (.node (o48 P) (.node (o82 P) .nil .nil) .nil))) (.node (o53 P) (.node (o12 P) (.node (o28 P) (.node (o62 P) .nil .nil) (.node (o94 P) .nil .nil)) (.node (o44 P) (.node (o78 P) .nil .nil) .nil)) (.node (o20 P) (.node (o36 P) (.node (o70 P) .nil .nil) (.node (o102 P) .nil .nil)) (.node (o54 P) (.node (o86 P) .nil .nil) .nil)))) (.node (boot_o_6 P) (.node (boot_o_10 P) (.node (o10 P) (.node (o26 P) (.node (o60 P) .nil .nil) (.node (o92 P) .nil .nil)) (.node (o42 P) (.node (o76 P) .nil .nil) (.node (o108 P) .nil .nil))) (.node (o18 P) (.node (o34 P) (.node (o68 P) .nil .nil) (.node (o100 P) .nil .nil)) (.node (o50 P) (.node (o84 P) .nil .nil) .nil))) (.node (o3 P) (.node (o14 P) (.node (o30 P) (.node (o64 P) .nil .nil) (.node (o96 P) .nil .nil)) (.node (o46 P) (.node (o80 P) .nil .nil) .nil)) (.node (o22 P) (.node (o38 P) (.node (o72 P) .nil .nil) (.node (o104 P) .nil .nil)) (.node (o56 P) (.node (o88 P) .nil .nil) .nil))))))
noncomputable def st2 (w : World) (os : OsState) : SharedT := ⟨tree2 w.params, 115, { }, ⟨[]⟩, { }, 326, os⟩
noncomputable def sts2 : List Stmt := (bodyT.drop 6).take 4
noncomputable def o109 (P : Params) : Obj := { cls := Value.type "dict", data := Data.dict #[{ hash := PyData.keyHash P (Str.ofString "__name__"), key := Value.str (Str.ofString "__name__") 165, val := Value.str (Str.ofString "lazycore.bind_order") 384 }, { hash := PyData.keyHash P (Str.ofString "__doc__"), key := Value.str (Str.ofString "__doc__") 166, val := Value.none }, { hash := PyData.keyHash P (Str.ofString "__package__"), key := Value.str (Str.ofString "__package__") 167, val := Value.none }, { hash := PyData.keyHash P (Str.ofString "__loader__"), key := Value.str (Str.ofString "__loader__") 168, val := Value.builtin "__main__.__loader__#opaque" }, { hash := PyData.keyHash P (Str.ofString "__spec__"), key := Value.str (Str.ofString "__spec__") 169, val := Value.none }, { hash := PyData.keyHash P (Str.ofString "__annotations__"), key := Value.str (Str.ofString "__annotations__") 170, val := Value.ref 6 }, { hash := PyData.keyHash P (Str.ofString "__builtins__"), key := Value.str (Str.ofString "__builtins__") 171, val := Value.ref 4 }, { hash := PyData.keyHash P (Str.ofString "__file__"), key := Value.str (Str.ofString "__file__") 173, val := Value.str (Str.ofString "/claim/cut.py") 172 }, { hash := PyData.keyHash P (Str.ofString "__cached__"), key := Value.str (Str.ofString "__cached__") 174, val := Value.none }, { hash := PyData.keyHash P (Str.ofString "_wall"), key := Value.str (Str.ofString "_wall") 193, val := Value.ref 21 }, { hash := PyData.keyHash P (Str.ofString "LazyError"), key := Value.str (Str.ofString "LazyError") 226, val := Value.ref 39 }, { hash := PyData.keyHash P (Str.ofString "FixityError"), key := Value.str (Str.ofString "FixityError") 242, val := Value.ref 52 }, { hash := PyData.keyHash P (Str.ofString "rows_of"), key := Value.str (Str.ofString "rows_of") 250, val := Value.ref 59 }, { hash := PyData.keyHash P (Str.ofString "Node"), key := Value.str (Str.ofString "Node") 286, val := Value.ref 83 }, { hash := PyData.keyHash P (Str.ofString "Op"), key := Value.str (Str.ofString "Op") 321, val := Value.ref 112 }, { hash := PyData.keyHash P (Str.ofString "COLON"), key := Value.str (Str.ofString "COLON") 325, val := Value.str (Str.ofString ":") 324 }, { hash := PyData.keyHash P (Str.ofString "Fixity"), key := Value.str (Str.ofString "Fixity") 356, val := Value.ref 131 }, { hash := PyData.keyHash P (Str.ofString "usual"), key := Value.str (Str.ofString "usual") 362, val := Value.ref 142 }, { hash := PyData.keyHash P (Str.ofString "of_minus"), key := Value.str (Str.ofString "of_minus") 368, val := Value.ref 149 }, { hash := PyData.keyHash P (Str.ofString "of_colon"), key := Value.str (Str.ofString "of_colon") 374, val := Value.ref 156 }, { hash := PyData.keyHash P (Str.ofString "fixity_in"), key := Value.str (Str.ofString "fixity_in") 383, val := Value.ref 163 }, { hash := PyData.keyHash P (Str.ofString "MINUS"), key := Value.str (Str.ofString "MINUS") 387, val := Value.str (Str.ofString "-") 386 }, { hash := PyData.keyHash P (Str.ofString "BINARY"), key := Value.str (Str.ofString "BINARY") 389, val := Value.int 0 388 }, { hash := PyData.keyHash P (Str.ofString "NEGATING"), key := Value.str (Str.ofString "NEGATING") 391, val := Value.int 1 390 }, { hash := PyData.keyHash P (Str.ofString "OPEN"), key := Value.str (Str.ofString "OPEN") 393, val := Value.int 2 392 }, { hash := PyData.keyHash P (Str.ofString "Waiting"), key := Value.str (Str.ofString "Waiting") 426, val := Value.ref 180 }, { hash := PyData.keyHash P (Str.ofString "check_beside"), key := Value.str (Str.ofString "check_beside") 435, val := Value.ref 191 }, { hash := PyData.keyHash P (Str.ofString "binds_first"), key := Value.str (Str.ofString "binds_first") 443, val := Value.ref 198 }] 28 }
noncomputable def o110 (P : Params) : Obj := { cls := Value.none, data := Data.fields #[Value.int 1 0, Value.int 0 0, Value.ref 20, Value.int 5 0, Value.int 0 0, Value.ref 27, Value.int 11 0, Value.int 0 0, Value.ref 48, Value.int 14 0, Value.int 0 0, Value.ref 58, Value.int 16 0, Value.int 0 0, Value.ref 65, Value.int 23 0, Value.int 0 0, Value.ref 93, Value.int 34 0, Value.int 0 0, Value.ref 120, Value.int 39 0, Value.int 0 0, Value.ref 141, Value.int 41 0, Value.int 0 0, Value.ref 148, Value.int 43 0, Value.int 0 0, Value.ref 155, Value.int 45 0, Value.int 0 0, Value.ref 162, Value.int 55 0, Value.int 0 0, Value.ref 169, Value.int 61 0, Value.int 0 0, Value.ref 190, Value.int 64 0, Value.int 0 0, Value.ref 197] }
noncomputable def o111 (P : Params) : Obj := { cls := Value.type "tuple", data := Data.seq #[] }
noncomputable def o112 (P : Params) : Obj := { cls := Value.type "builtin_function_or_method", data := Data.fields #[Value.builtin "type.__prepare__", Value.type "type"] }
noncomputable def o113 (P : Params) : Obj := { cls := Value.type "dict", data := Data.dict #[{ hash := PyData.keyHash P (Str.ofString "__module__"), key := Value.str (Str.ofString "__module__") 333, val := Value.str (Str.ofString "lazycore.operators") 322 }, { hash := PyData.keyHash P (Str.ofString "__qualname__"), key := Value.str (Str.ofString "__qualname__") 335, val := Value.str (Str.ofString "Fixity") 334 }, { hash := PyData.keyHash P (Str.ofString "__firstlineno__"), key := Value.str (Str.ofString "__firstlineno__") 337, val := Value.int 34 336 }, { hash := PyData.keyHash P (Str.ofString "__init__"), key := Value.str (Str.ofString "__init__") 346, val := Value.ref 128 }, { hash := PyData.keyHash P (Str.ofString "__static_attributes__"), key := Value.str (Str.ofString "__static_attributes__") 349, val := Value.ref 129 }] 5 }
noncomputable def o114 (P : Params) : Obj := { cls := Value.type "tuple", data := Data.seq #[] }
noncomputable def o115 (P : Params) : Obj := { cls := Value.none, data := Data.fields #[Value.int 36 0, Value.int 4 0, Value.ref 127] }
noncomputable def o116 (P : Params) : Obj := { cls := Value.type "code", data := Data.fields #[Value.str (Str.ofString "Fixity") 328, Value.str (Str.ofString "Fixity") 329, Value.str (Str.ofString "/claim/cut.py") 330, Value.int 34 0, Value.int 0 0, Value.int 0 0, Value.int 0 0, Value.int 0 0, Value.ref 118, Value.bool Bool.false, Value.int 181 0, Value.ref 119, Value.none, Value.none, Value.none, Value.none, Value.int 331 0, Value.int 34 0, Value.str (Str.ofString "/claim/cut.py") 332] }
noncomputable def o117 (P : Params) : Obj := { cls := Value.type "frame", slots := #[some (Value.ref 120), some (Value.ref 3), some (Value.ref 117), none, some (Value.str (Str.ofString "lazycore.operators") 322), none, some (Value.ref 0)] }
noncomputable def o118 (P : Params) : Obj := { cls := Value.type "tuple", data := Data.seq #[] }
noncomputable def o119 (P : Params) : Obj := { cls := Value.none, data := Data.fields #[] }
noncomputable def o120 (P : Params) : Obj := { cls := Value.type "tuple", data := Data.seq #[Value.str (Str.ofString "self") 341, Value.str (Str.ofString "way") 342, Value.str (Str.ofString "level") 343] }
noncomputable def o121 (P : Params) : Obj := { cls := Value.type "tuple", data := Data.seq #[] }
noncomputable def o122r (P : Params) : Obj := { cls := Value.none, data := Data.func { name := Str.ofString "__init__", qualname := Str.ofString "Fixity.__init__", params := fA 7, body := FuncBody.stmts (fB 7), scope := fS 7, globals := 0, closure := [], defaults := Value.none, kwdefaults := Value.none } }
noncomputable def o122 : Params → Obj := by
  refine' (?f : (K : Params → Obj) → (∀ P, K P = o122r P) → (Params → Obj)) _ ?h
  case f => exact fun K _ => K
  case h =>
    intro P
    conv =>
      rhs
      delta o122r
      conv => pattern (occs := *) fB _; all_goals whnf
      conv => pattern (occs := *) fA _; all_goals whnf
      conv => pattern (occs := *) fS _; all_goals whnf
noncomputable def o123 (P : Params) : Obj := { cls := Value.type "code", data := Data.fields #[Value.str (Str.ofString "__init__") 338, Value.str (Str.ofString "Fixity.__init__") 339, Value.str (Str.ofString "/claim/cut.py") 340, Value.int 36 0, Value.int 3 0, Value.int 0 0, Value.int 0 0, Value.int 3 0, Value.ref 122, Value.bool Bool.true, Value.int 181 0, Value.ref 123, Value.none, Value.ref 124, Value.ref 125, Value.ref 126, Value.int 344 0, Value.int 36 0, Value.str (Str.ofString "/claim/cut.py") 345] }
noncomputable def o124r (P : Params) : Obj := { cls := Value.type "function", data := Data.func { name := Str.ofString "__init__", qualname := Str.ofString "Fixity.__init__", params := fA 7, body := FuncBody.stmts (fB 7), scope := fS 7, globals := 3, closure := [], defaults := Value.none, kwdefaults := Value.none, pyModule := Value.str (Str.ofString "lazycore.operators") 322, code := Value.ref 127 } }
noncomputable def o124 : Params → Obj := by
  refine' (?f : (K : Params → Obj) → (∀ P, K P = o124r P) → (Params → Obj)) _ ?h
  case f => exact fun K _ => K
  case h =>
    intro P
    conv =>
      rhs
      delta o124r
      conv => pattern (occs := *) fB _; all_goals whnf
      conv => pattern (occs := *) fA _; all_goals whnf
      conv => pattern (occs := *) fS _; all_goals whnf
noncomputable def o125 (P : Params) : Obj := { cls := Value.type "tuple", data := Data.seq #[Value.str (Str.ofString "level") 347, Value.str (Str.ofString "way") 348] }
noncomputable def o126 (P : Params) : Obj := { cls := Value.type "dict", data := Data.dict #[{ hash := PyData.keyHash P (Str.ofString "__module__"), key := Value.str (Str.ofString "__module__") 333, val := Value.str (Str.ofString "lazycore.operators") 322 }, { hash := PyData.keyHash P (Str.ofString "__firstlineno__"), key := Value.str (Str.ofString "__firstlineno__") 337, val := Value.int 34 336 }, { hash := PyData.keyHash P (Str.ofString "__init__"), key := Value.str (Str.ofString "__init__") 346, val := Value.ref 128 }, { hash := PyData.keyHash P (Str.ofString "__static_attributes__"), key := Value.str (Str.ofString "__static_attributes__") 349, val := Value.ref 129 }, { hash := PyData.keyHash P (Str.ofString "__dict__"), key := Value.str (Str.ofString "__dict__") 351, val := Value.ref 132 }, { hash := PyData.keyHash P (Str.ofString "__weakref__"), key := Value.str (Str.ofString "__weakref__") 353, val := Value.ref 133 }, { hash := PyData.keyHash P (Str.ofString "__doc__"), key := Value.str (Str.ofString "__doc__") 354, val := Value.none }] 4 }
noncomputable def o127 (P : Params) : Obj := { cls := Value.type "type", data := Data.cls { name := Str.ofString "Fixity", bases := [Value.type "object"], mro := [Value.ref 131, Value.type "object"], ns := 130, qualname := Str.ofString "Fixity" }, slots := #[none, none, some (Value.str (Str.ofString "Fixity") 326), some (Value.str (Str.ofString "Fixity") 334), some (Value.builtin "object.__new__"), some (Value.bool Bool.true)] }
noncomputable def o128 (P : Params) : Obj := { cls := Value.type "getset_descriptor", data := Data.fields #[Value.str (Str.ofString "__dict__") 350, Value.ref 131, Value.builtin "function.__dict__", Value.builtin "function.__dict__#set"] }
noncomputable def o129 (P : Params) : Obj := { cls := Value.type "getset_descriptor", data := Data.fields #[Value.str (Str.ofString "__weakref__") 352, Value.ref 131, Value.builtin "ExceptionGroup.__weakref__", Value.none] }
noncomputable def o130 (P : Params) : Obj := { cls := Value.type "super", data := Data.fields #[Value.ref 131, Value.ref 131, Value.ref 131] }
noncomputable def o131 (P : Params) : Obj := { cls := Value.type "builtin_function_or_method", data := Data.fields #[Value.builtin "object.__init_subclass__", Value.ref 131] }
noncomputable def o132 (P : Params) : Obj := { cls := Value.type "tuple", data := Data.seq #[] }
noncomputable def o133 (P : Params) : Obj := { cls := Value.none, data := Data.fields #[] }
noncomputable def o134 (P : Params) : Obj := { cls := Value.type "tuple", data := Data.seq #[] }
noncomputable def o135 (P : Params) : Obj := { cls := Value.type "tuple", data := Data.seq #[] }
noncomputable def o136r (P : Params) : Obj := { cls := Value.none, data := Data.func { name := Str.ofString "usual", qualname := Str.ofString "usual", params := fA 8, body := FuncBody.stmts (fB 8), scope := fS 8, globals := 0, closure := [], defaults := Value.none, kwdefaults := Value.none } }
noncomputable def o136 : Params → Obj := by
  refine' (?f : (K : Params → Obj) → (∀ P, K P = o136r P) → (Params → Obj)) _ ?h
  case f => exact fun K _ => K
  case h =>
    intro P
    conv =>
      rhs
      delta o136r
      conv => pattern (occs := *) fB _; all_goals whnf
      conv => pattern (occs := *) fA _; all_goals whnf
      conv => pattern (occs := *) fS _; all_goals whnf
noncomputable def o137 (P : Params) : Obj := { cls := Value.type "code", data := Data.fields #[Value.str (Str.ofString "usual") 357, Value.str (Str.ofString "usual") 358, Value.str (Str.ofString "/claim/cut.py") 359, Value.int 39 0, Value.int 0 0, Value.int 0 0, Value.int 0 0, Value.int 3 0, Value.ref 136, Value.bool Bool.true, Value.int 181 0, Value.ref 137, Value.none, Value.ref 138, Value.ref 139, Value.ref 140, Value.int 360 0, Value.int 39 0, Value.str (Str.ofString "/claim/cut.py") 361] }
noncomputable def o138r (P : Params) : Obj := { cls := Value.type "function", data := Data.func { name := Str.ofString "usual", qualname := Str.ofString "usual", params := fA 8, body := FuncBody.stmts (fB 8), scope := fS 8, globals := 3, closure := [], defaults := Value.none, kwdefaults := Value.none, pyModule := Value.str (Str.ofString "lazycore.operators") 322, code := Value.ref 141 } }
noncomputable def o138 : Params → Obj := by
  refine' (?f : (K : Params → Obj) → (∀ P, K P = o138r P) → (Params → Obj)) _ ?h
  case f => exact fun K _ => K
  case h =>
    intro P
    conv =>
      rhs
      delta o138r
      conv => pattern (occs := *) fB _; all_goals whnf
      conv => pattern (occs := *) fA _; all_goals whnf
      conv => pattern (occs := *) fS _; all_goals whnf
noncomputable def o139 (P : Params) : Obj := { cls := Value.type "tuple", data := Data.seq #[] }
noncomputable def o140 (P : Params) : Obj := { cls := Value.none, data := Data.fields #[] }
noncomputable def o141 (P : Params) : Obj := { cls := Value.type "tuple", data := Data.seq #[] }
noncomputable def o142 (P : Params) : Obj := { cls := Value.type "tuple", data := Data.seq #[] }
noncomputable def o143r (P : Params) : Obj := { cls := Value.none, data := Data.func { name := Str.ofString "of_minus", qualname := Str.ofString "of_minus", params := fA 8, body := FuncBody.stmts (fB 9), scope := fS 8, globals := 0, closure := [], defaults := Value.none, kwdefaults := Value.none } }
noncomputable def o143 : Params → Obj := by
  refine' (?f : (K : Params → Obj) → (∀ P, K P = o143r P) → (Params → Obj)) _ ?h
  case f => exact fun K _ => K
  case h =>
    intro P
    conv =>
      rhs
      delta o143r
      conv => pattern (occs := *) fB _; all_goals whnf
      conv => pattern (occs := *) fA _; all_goals whnf
      conv => pattern (occs := *) fS _; all_goals whnf
noncomputable def o144 (P : Params) : Obj := { cls := Value.type "code", data := Data.fields #[Value.str (Str.ofString "of_minus") 363, Value.str (Str.ofString "of_minus") 364, Value.str (Str.ofString "/claim/cut.py") 365, Value.int 41 0, Value.int 0 0, Value.int 0 0, Value.int 0 0, Value.int 3 0, Value.ref 143, Value.bool Bool.true, Value.int 181 0, Value.ref 144, Value.none, Value.ref 145, Value.ref 146, Value.ref 147, Value.int 366 0, Value.int 41 0, Value.str (Str.ofString "/claim/cut.py") 367] }
noncomputable def o145r (P : Params) : Obj := { cls := Value.type "function", data := Data.func { name := Str.ofString "of_minus", qualname := Str.ofString "of_minus", params := fA 8, body := FuncBody.stmts (fB 9), scope := fS 8, globals := 3, closure := [], defaults := Value.none, kwdefaults := Value.none, pyModule := Value.str (Str.ofString "lazycore.operators") 322, code := Value.ref 148 } }
noncomputable def o145 : Params → Obj := by
  refine' (?f : (K : Params → Obj) → (∀ P, K P = o145r P) → (Params → Obj)) _ ?h
  case f => exact fun K _ => K
  case h =>
    intro P
    conv =>
      rhs
      delta o145r
      conv => pattern (occs := *) fB _; all_goals whnf
      conv => pattern (occs := *) fA _; all_goals whnf
      conv => pattern (occs := *) fS _; all_goals whnf
noncomputable def o146 (P : Params) : Obj := { cls := Value.type "tuple", data := Data.seq #[] }
noncomputable def o147 (P : Params) : Obj := { cls := Value.none, data := Data.fields #[] }
noncomputable def o148 (P : Params) : Obj := { cls := Value.type "tuple", data := Data.seq #[] }
noncomputable def o149 (P : Params) : Obj := { cls := Value.type "tuple", data := Data.seq #[] }
noncomputable def o150r (P : Params) : Obj := { cls := Value.none, data := Data.func { name := Str.ofString "of_colon", qualname := Str.ofString "of_colon", params := fA 8, body := FuncBody.stmts (fB 10), scope := fS 8, globals := 0, closure := [], defaults := Value.none, kwdefaults := Value.none } }
noncomputable def o150 : Params → Obj := by
  refine' (?f : (K : Params → Obj) → (∀ P, K P = o150r P) → (Params → Obj)) _ ?h
  case f => exact fun K _ => K
  case h =>
    intro P
    conv =>
      rhs
      delta o150r
      conv => pattern (occs := *) fB _; all_goals whnf
      conv => pattern (occs := *) fA _; all_goals whnf
      conv => pattern (occs := *) fS _; all_goals whnf
noncomputable def o151 (P : Params) : Obj := { cls := Value.type "code", data := Data.fields #[Value.str (Str.ofString "of_colon") 369, Value.str (Str.ofString "of_colon") 370, Value.str (Str.ofString "/claim/cut.py") 371, Value.int 43 0, Value.int 0 0, Value.int 0 0, Value.int 0 0, Value.int 3 0, Value.ref 150, Value.bool Bool.true, Value.int 181 0, Value.ref 151, Value.none, Value.ref 152, Value.ref 153, Value.ref 154, Value.int 372 0, Value.int 43 0, Value.str (Str.ofString "/claim/cut.py") 373] }
noncomputable def o152r (P : Params) : Obj := { cls := Value.type "function", data := Data.func { name := Str.ofString "of_colon", qualname := Str.ofString "of_colon", params := fA 8, body := FuncBody.stmts (fB 10), scope := fS 8, globals := 3, closure := [], defaults := Value.none, kwdefaults := Value.none, pyModule := Value.str (Str.ofString "lazycore.operators") 322, code := Value.ref 155 } }
noncomputable def o152 : Params → Obj := by
  refine' (?f : (K : Params → Obj) → (∀ P, K P = o152r P) → (Params → Obj)) _ ?h
  case f => exact fun K _ => K
  case h =>
    intro P
    conv =>
      rhs
      delta o152r
      conv => pattern (occs := *) fB _; all_goals whnf
      conv => pattern (occs := *) fA _; all_goals whnf
      conv => pattern (occs := *) fS _; all_goals whnf
noncomputable def o153 (P : Params) : Obj := { cls := Value.type "tuple", data := Data.seq #[] }
noncomputable def o154 (P : Params) : Obj := { cls := Value.none, data := Data.fields #[] }
noncomputable def o155 (P : Params) : Obj := { cls := Value.type "tuple", data := Data.seq #[Value.str (Str.ofString "known") 378, Value.str (Str.ofString "name") 379, Value.str (Str.ofString "found") 380] }
noncomputable def o156 (P : Params) : Obj := { cls := Value.type "tuple", data := Data.seq #[] }
noncomputable def o157r (P : Params) : Obj := { cls := Value.none, data := Data.func { name := Str.ofString "fixity_in", qualname := Str.ofString "fixity_in", params := fA 11, body := FuncBody.stmts (fB 11), scope := fS 11, globals := 0, closure := [], defaults := Value.none, kwdefaults := Value.none } }
noncomputable def o157 : Params → Obj := by
  refine' (?f : (K : Params → Obj) → (∀ P, K P = o157r P) → (Params → Obj)) _ ?h
  case f => exact fun K _ => K
  case h =>
    intro P
    conv =>
      rhs
      delta o157r
      conv => pattern (occs := *) fB _; all_goals whnf
      conv => pattern (occs := *) fA _; all_goals whnf
      conv => pattern (occs := *) fS _; all_goals whnf
noncomputable def o158 (P : Params) : Obj := { cls := Value.type "code", data := Data.fields #[Value.str (Str.ofString "fixity_in") 375, Value.str (Str.ofString "fixity_in") 376, Value.str (Str.ofString "/claim/cut.py") 377, Value.int 45 0, Value.int 2 0, Value.int 0 0, Value.int 0 0, Value.int 3 0, Value.ref 157, Value.bool Bool.true, Value.int 181 0, Value.ref 158, Value.none, Value.ref 159, Value.ref 160, Value.ref 161, Value.int 381 0, Value.int 45 0, Value.str (Str.ofString "/claim/cut.py") 382] }
noncomputable def o159r (P : Params) : Obj := { cls := Value.type "function", data := Data.func { name := Str.ofString "fixity_in", qualname := Str.ofString "fixity_in", params := fA 11, body := FuncBody.stmts (fB 11), scope := fS 11, globals := 3, closure := [], defaults := Value.none, kwdefaults := Value.none, pyModule := Value.str (Str.ofString "lazycore.operators") 322, code := Value.ref 162 } }
noncomputable def o159 : Params → Obj := by
  refine' (?f : (K : Params → Obj) → (∀ P, K P = o159r P) → (Params → Obj)) _ ?h
  case f => exact fun K _ => K
  case h =>
    intro P
    conv =>
      rhs
      delta o159r
      conv => pattern (occs := *) fB _; all_goals whnf
      conv => pattern (occs := *) fA _; all_goals whnf
      conv => pattern (occs := *) fS _; all_goals whnf
noncomputable def o160 (P : Params) : Obj := { cls := Value.type "tuple", data := Data.seq #[] }
noncomputable def o161 (P : Params) : Obj := { cls := Value.type "builtin_function_or_method", data := Data.fields #[Value.builtin "type.__prepare__", Value.type "type"] }
noncomputable def o162 (P : Params) : Obj := { cls := Value.type "dict", data := Data.dict #[{ hash := PyData.keyHash P (Str.ofString "__module__"), key := Value.str (Str.ofString "__module__") 401, val := Value.str (Str.ofString "lazycore.bind_order") 384 }, { hash := PyData.keyHash P (Str.ofString "__qualname__"), key := Value.str (Str.ofString "__qualname__") 403, val := Value.str (Str.ofString "Waiting") 402 }, { hash := PyData.keyHash P (Str.ofString "__firstlineno__"), key := Value.str (Str.ofString "__firstlineno__") 405, val := Value.int 55 404 }, { hash := PyData.keyHash P (Str.ofString "__init__"), key := Value.str (Str.ofString "__init__") 415, val := Value.ref 177 }, { hash := PyData.keyHash P (Str.ofString "__static_attributes__"), key := Value.str (Str.ofString "__static_attributes__") 419, val := Value.ref 178 }] 5 }
noncomputable def o163 (P : Params) : Obj := { cls := Value.type "tuple", data := Data.seq #[] }
noncomputable def o164 (P : Params) : Obj := { cls := Value.none, data := Data.fields #[Value.int 57 0, Value.int 4 0, Value.ref 176] }
noncomputable def o165 (P : Params) : Obj := { cls := Value.type "code", data := Data.fields #[Value.str (Str.ofString "Waiting") 396, Value.str (Str.ofString "Waiting") 397, Value.str (Str.ofString "/claim/cut.py") 398, Value.int 55 0, Value.int 0 0, Value.int 0 0, Value.int 0 0, Value.int 0 0, Value.ref 167, Value.bool Bool.false, Value.int 181 0, Value.ref 168, Value.none, Value.none, Value.none, Value.none, Value.int 399 0, Value.int 55 0, Value.str (Str.ofString "/claim/cut.py") 400] }
noncomputable def o166 (P : Params) : Obj := { cls := Value.type "frame", slots := #[some (Value.ref 169), some (Value.ref 3), some (Value.ref 166), none, some (Value.str (Str.ofString "lazycore.bind_order") 384), none, some (Value.ref 0)] }
noncomputable def o167 (P : Params) : Obj := { cls := Value.type "tuple", data := Data.seq #[] }
noncomputable def o168 (P : Params) : Obj := { cls := Value.none, data := Data.fields #[] }
noncomputable def o169 (P : Params) : Obj := { cls := Value.type "tuple", data := Data.seq #[Value.str (Str.ofString "self") 409, Value.str (Str.ofString "op") 410, Value.str (Str.ofString "fixity") 411, Value.str (Str.ofString "sort") 412] }
noncomputable def o170 (P : Params) : Obj := { cls := Value.type "tuple", data := Data.seq #[] }
noncomputable def o171r (P : Params) : Obj := { cls := Value.none, data := Data.func { name := Str.ofString "__init__", qualname := Str.ofString "Waiting.__init__", params := fA 12, body := FuncBody.stmts (fB 12), scope := fS 12, globals := 0, closure := [], defaults := Value.none, kwdefaults := Value.none } }
noncomputable def o171 : Params → Obj := by
  refine' (?f : (K : Params → Obj) → (∀ P, K P = o171r P) → (Params → Obj)) _ ?h
  case f => exact fun K _ => K
  case h =>
    intro P
    conv =>
      rhs
      delta o171r
      conv => pattern (occs := *) fB _; all_goals whnf
      conv => pattern (occs := *) fA _; all_goals whnf
      conv => pattern (occs := *) fS _; all_goals whnf
noncomputable def o172 (P : Params) : Obj := { cls := Value.type "code", data := Data.fields #[Value.str (Str.ofString "__init__") 406, Value.str (Str.ofString "Waiting.__init__") 407, Value.str (Str.ofString "/claim/cut.py") 408, Value.int 57 0, Value.int 4 0, Value.int 0 0, Value.int 0 0, Value.int 3 0, Value.ref 171, Value.bool Bool.true, Value.int 181 0, Value.ref 172, Value.none, Value.ref 173, Value.ref 174, Value.ref 175, Value.int 413 0, Value.int 57 0, Value.str (Str.ofString "/claim/cut.py") 414] }
noncomputable def o173r (P : Params) : Obj := { cls := Value.type "function", data := Data.func { name := Str.ofString "__init__", qualname := Str.ofString "Waiting.__init__", params := fA 12, body := FuncBody.stmts (fB 12), scope := fS 12, globals := 3, closure := [], defaults := Value.none, kwdefaults := Value.none, pyModule := Value.str (Str.ofString "lazycore.bind_order") 384, code := Value.ref 176 } }
noncomputable def o173 : Params → Obj := by
  refine' (?f : (K : Params → Obj) → (∀ P, K P = o173r P) → (Params → Obj)) _ ?h
  case f => exact fun K _ => K
  case h =>
    intro P
    conv =>
      rhs
      delta o173r
      conv => pattern (occs := *) fB _; all_goals whnf
      conv => pattern (occs := *) fA _; all_goals whnf
      conv => pattern (occs := *) fS _; all_goals whnf
noncomputable def o174 (P : Params) : Obj := { cls := Value.type "tuple", data := Data.seq #[Value.str (Str.ofString "fixity") 416, Value.str (Str.ofString "op") 417, Value.str (Str.ofString "sort") 418] }
noncomputable def o175 (P : Params) : Obj := { cls := Value.type "dict", data := Data.dict #[{ hash := PyData.keyHash P (Str.ofString "__module__"), key := Value.str (Str.ofString "__module__") 401, val := Value.str (Str.ofString "lazycore.bind_order") 384 }, { hash := PyData.keyHash P (Str.ofString "__firstlineno__"), key := Value.str (Str.ofString "__firstlineno__") 405, val := Value.int 55 404 }, { hash := PyData.keyHash P (Str.ofString "__init__"), key := Value.str (Str.ofString "__init__") 415, val := Value.ref 177 }, { hash := PyData.keyHash P (Str.ofString "__static_attributes__"), key := Value.str (Str.ofString "__static_attributes__") 419, val := Value.ref 178 }, { hash := PyData.keyHash P (Str.ofString "__dict__"), key := Value.str (Str.ofString "__dict__") 421, val := Value.ref 181 }, { hash := PyData.keyHash P (Str.ofString "__weakref__"), key := Value.str (Str.ofString "__weakref__") 423, val := Value.ref 182 }, { hash := PyData.keyHash P (Str.ofString "__doc__"), key := Value.str (Str.ofString "__doc__") 424, val := Value.none }] 4 }
noncomputable def o176 (P : Params) : Obj := { cls := Value.type "type", data := Data.cls { name := Str.ofString "Waiting", bases := [Value.type "object"], mro := [Value.ref 180, Value.type "object"], ns := 179, qualname := Str.ofString "Waiting" }, slots := #[none, none, some (Value.str (Str.ofString "Waiting") 394), some (Value.str (Str.ofString "Waiting") 402), some (Value.builtin "object.__new__"), some (Value.bool Bool.true)] }
noncomputable def o177 (P : Params) : Obj := { cls := Value.type "getset_descriptor", data := Data.fields #[Value.str (Str.ofString "__dict__") 420, Value.ref 180, Value.builtin "function.__dict__", Value.builtin "function.__dict__#set"] }
noncomputable def o178 (P : Params) : Obj := { cls := Value.type "getset_descriptor", data := Data.fields #[Value.str (Str.ofString "__weakref__") 422, Value.ref 180, Value.builtin "ExceptionGroup.__weakref__", Value.none] }
noncomputable def o179 (P : Params) : Obj := { cls := Value.type "super", data := Data.fields #[Value.ref 180, Value.ref 180, Value.ref 180] }
noncomputable def o180 (P : Params) : Obj := { cls := Value.type "builtin_function_or_method", data := Data.fields #[Value.builtin "object.__init_subclass__", Value.ref 180] }
noncomputable def o181 (P : Params) : Obj := { cls := Value.type "tuple", data := Data.seq #[] }
noncomputable def o182 (P : Params) : Obj := { cls := Value.none, data := Data.fields #[] }
noncomputable def o183 (P : Params) : Obj := { cls := Value.type "tuple", data := Data.seq #[Value.str (Str.ofString "one") 430, Value.str (Str.ofString "other") 431, Value.str (Str.ofString "place") 432] }
noncomputable def o184 (P : Params) : Obj := { cls := Value.type "tuple", data := Data.seq #[] }
noncomputable def o185r (P : Params) : Obj := { cls := Value.none, data := Data.func { name := Str.ofString "check_beside", qualname := Str.ofString "check_beside", params := fA 13, body := FuncBody.stmts (fB 13), scope := fS 13, globals := 0, closure := [], defaults := Value.none, kwdefaults := Value.none } }
noncomputable def o185 : Params → Obj := by
  refine' (?f : (K : Params → Obj) → (∀ P, K P = o185r P) → (Params → Obj)) _ ?h
  case f => exact fun K _ => K
  case h =>
    intro P
    conv =>
      rhs
      delta o185r
      conv => pattern (occs := *) fB _; all_goals whnf
      conv => pattern (occs := *) fA _; all_goals whnf
      conv => pattern (occs := *) fS _; all_goals whnf
noncomputable def o186 (P : Params) : Obj := { cls := Value.type "code", data := Data.fields #[Value.str (Str.ofString "check_beside") 427, Value.str (Str.ofString "check_beside") 428, Value.str (Str.ofString "/claim/cut.py") 429, Value.int 61 0, Value.int 3 0, Value.int 0 0, Value.int 0 0, Value.int 3 0, Value.ref 185, Value.bool Bool.true, Value.int 181 0, Value.ref 186, Value.none, Value.ref 187, Value.ref 188, Value.ref 189, Value.int 433 0, Value.int 61 0, Value.str (Str.ofString "/claim/cut.py") 434] }
noncomputable def o187r (P : Params) : Obj := { cls := Value.type "function", data := Data.func { name := Str.ofString "check_beside", qualname := Str.ofString "check_beside", params := fA 13, body := FuncBody.stmts (fB 13), scope := fS 13, globals := 3, closure := [], defaults := Value.none, kwdefaults := Value.none, pyModule := Value.str (Str.ofString "lazycore.bind_order") 384, code := Value.ref 190 } }
noncomputable def o187 : Params → Obj := by
  refine' (?f : (K : Params → Obj) → (∀ P, K P = o187r P) → (Params → Obj)) _ ?h
  case f => exact fun K _ => K
  case h =>
    intro P
    conv =>
      rhs
      delta o187r
      conv => pattern (occs := *) fB _; all_goals whnf
      conv => pattern (occs := *) fA _; all_goals whnf
      conv => pattern (occs := *) fS _; all_goals whnf
noncomputable def o188 (P : Params) : Obj := { cls := Value.type "tuple", data := Data.seq #[] }
noncomputable def o189 (P : Params) : Obj := { cls := Value.none, data := Data.fields #[] }
noncomputable def o190 (P : Params) : Obj := { cls := Value.type "tuple", data := Data.seq #[Value.str (Str.ofString "one") 439, Value.str (Str.ofString "other") 440] }
noncomputable def o191 (P : Params) : Obj := { cls := Value.type "tuple", data := Data.seq #[] }
noncomputable def o192r (P : Params) : Obj := { cls := Value.none, data := Data.func { name := Str.ofString "binds_first", qualname := Str.ofString "binds_first", params := fA 14, body := FuncBody.stmts (fB 14), scope := fS 14, globals := 0, closure := [], defaults := Value.none, kwdefaults := Value.none } }
noncomputable def o192 : Params → Obj := by
  refine' (?f : (K : Params → Obj) → (∀ P, K P = o192r P) → (Params → Obj)) _ ?h
  case f => exact fun K _ => K
  case h =>
    intro P
    conv =>
      rhs
      delta o192r
      conv => pattern (occs := *) fB _; all_goals whnf
      conv => pattern (occs := *) fA _; all_goals whnf
      conv => pattern (occs := *) fS _; all_goals whnf
noncomputable def o193 (P : Params) : Obj := { cls := Value.type "code", data := Data.fields #[Value.str (Str.ofString "binds_first") 436, Value.str (Str.ofString "binds_first") 437, Value.str (Str.ofString "/claim/cut.py") 438, Value.int 64 0, Value.int 2 0, Value.int 0 0, Value.int 0 0, Value.int 3 0, Value.ref 192, Value.bool Bool.true, Value.int 181 0, Value.ref 193, Value.none, Value.ref 194, Value.ref 195, Value.ref 196, Value.int 441 0, Value.int 64 0, Value.str (Str.ofString "/claim/cut.py") 442] }
noncomputable def o194r (P : Params) : Obj := { cls := Value.type "function", data := Data.func { name := Str.ofString "binds_first", qualname := Str.ofString "binds_first", params := fA 14, body := FuncBody.stmts (fB 14), scope := fS 14, globals := 3, closure := [], defaults := Value.none, kwdefaults := Value.none, pyModule := Value.str (Str.ofString "lazycore.bind_order") 384, code := Value.ref 197 } }
noncomputable def o194 : Params → Obj := by
  refine' (?f : (K : Params → Obj) → (∀ P, K P = o194r P) → (Params → Obj)) _ ?h
  case f => exact fun K _ => K
  case h =>
    intro P
    conv =>
      rhs
      delta o194r
      conv => pattern (occs := *) fB _; all_goals whnf
      conv => pattern (occs := *) fA _; all_goals whnf
      conv => pattern (occs := *) fS _; all_goals whnf
noncomputable def tree3 (P : Params) : BT := (.node (boot_o_0 P) (.node (boot_o_1 P) (.node (o109 P) (.node (boot_o_7 P) (.node (o7 P) (.node (o23 P) (.node (o57 P) (.node (o123 P) .nil .nil) (.node (o187 P) .nil .nil)) (.node (o89 P) (.node (o155 P) .nil .nil) .nil)) (.node (o39 P) (.node (o73 P) (.node (o139 P) .nil .nil) .nil) (.node (o105 P) (.node (o171 P) .nil .nil) .nil))) (.node (o15 P) (.node (o31 P) (.node (o65 P) (.node (o131 P) .nil .nil) .nil) (.node (o97 P) (.node (o163 P) .nil .nil) .nil)) (.node (o47 P) (.node (o81 P) (.node (o147 P) .nil .nil) .nil) (.node (o115 P) (.node (o179 P) .nil .nil) .nil)))) (.node (o0 P) (.node (o11 P) (.node (o27 P) (.node (o61 P) (.node (o127 P) .nil .nil) (.node (o191 P) .nil .nil)) (.node (o93 P) (.node (o159 P) .nil .nil) .nil)) (.node (o43 P) (.node (o77 P) (.node (o143 P) .nil .nil) .nil) (.node (o111 P) (.node (o175 P) .nil .nil) .nil))) (.node (o19 P) (.node (o35 P) (.node (o69 P) (.node (o135 P) .nil .nil) .nil) (.node (o101 P) (.node (o167 P) .nil .nil) .nil)) (.node (o51 P) (.node (o85 P) (.node (o151 P) .nil .nil) .nil) (.node (o119 P) (.node (o183 P) .nil .nil) .nil))))) (.node (boot_o_5 P) (.node (boot_o_9 P) (.node (o9 P) (.node (o25 P) (.node (o59 P) (.node (o125 P) .nil .nil) (.node (o189 P) .nil .nil)) (.node (o91 P) (.node (o157 P) .nil .nil) .nil)) (.node (o41 P) (.node (o75 P) (.node (o141 P) .nil .nil) .nil) (.node (o107 P) (.node (o173 P) .nil .nil) .nil))) (.node (o17 P) (.node (o33 P) (.node (o67 P) (.node (o133 P) .nil .nil) .nil) (.node (o99 P) (.node (o165 P) .nil .nil) .nil)) (.node (o49 P) (.node (o83 P) (.node (o149 P) .nil .nil) .nil) (.node (o117 P) (.node (o181 P) .nil .nil) .nil)))) (.node (o2 P) (.node (o13 P) (.node (o29 P) (.node (o63 P) (.node (o129 P) .nil .nil) (.node (o193 P) .nil .nil)) (.node (o95 P) (.node (o161 P) .nil .nil) .nil)) (.node (o45 P) (.node (o79 P) (.node (o145 P) .nil .nil) .nil) (.node (o113 P) (.node (o177 P) .nil .nil) .nil))) (.node (o21 P) (.node (o37 P) (.node (o71 P) (.node (o137 P) .nil .nil) .nil) (.node (o103 P) (.node (o169 P) .nil .nil) .nil)) (.node (o55 P) (.node (o87 P) (.node (o153 P) .nil .nil) .nil) (.node (o121 P) (.node (o185 P) .nil .nil) .nil)))))) (.node (o4 P) (.node (boot_o_4 P) (.node (boot_o_8 P) (.node (o8 P) (.node (o24 P) (.node (o58 P) (.node (o124 P) .nil .nil) (.node (o188 P) .nil .nil)) (.node (o90 P) (.node (o156 P) .nil .nil) .nil)) (.node (o40 P) (.node (o74 P) (.node (o140 P) .nil .nil) .nil) (.node (o106 P) (.node (o172 P) .nil .nil) .nil))) (.node (o16 P) (.node (o32 P) (.node (o66 P) (.node (o132 P) .nil .nil) .nil) (.node (o98 P) (.node (o164 P) .nil .nil) .nil)) (.node (o48 P) (.node (o82 P) (.node (o148 P) .nil .nil) .nil) (.node (o116 P) (.node (o180 P) .nil .nil) .nil)))) (.node (o110 P) (.node (o12 P) (.node (o28 P) (.node (o62 P) (.node (o128 P) .nil .nil) (.node (o192 P) .nil .nil)) (.node (o94 P) (.node (o160 P) .nil .nil) .nil)) (.node (o44 P) (.node (o78 P) (.node (o144 P) .nil .nil) .nil) (.node (o112 P) (.node (o176 P) .nil .nil) .nil))) (.node (o20 P) (.node (o36 P) (.node (o70 P) (.node (o136 P) .nil .nil) .nil) (.node (o102 P) (.node (o168 P) .nil .nil) .nil)) (.node (o54 P) (.node (o86 P) (.node (o152 P) .nil .nil) .nil) (.node (o120 P) (.node (o184 P) .nil .nil) .nil))))) (.node (boot_o_6 P) (.node (boot_o_10 P) (.node (o10 P) (.node (o26 P) (.node (o60 P) (.node (o126 P) .nil .nil) (.node (o190 P) .nil .nil)) (.node (o92 P) (.node (o158 P) .nil .nil) .nil)) (.node (o42 P) (.node (o76 P) (.node (o142 P) .nil .nil) .nil) (.node (o108 P) (.node (o174 P) .nil .nil) .nil))) (.node (o18 P) (.node (o34 P) (.node (o68 P) (.node (o134 P) .nil .nil) .nil) (.node (o100 P) (.node (o166 P) .nil .nil) .nil)) (.node (o50 P) (.node (o84 P) (.node (o150 P) .nil .nil) .nil) (.node (o118 P) (.node (o182 P) .nil .nil) .nil)))) (.node (o3 P) (.node (o14 P) (.node (o30 P) (.node (o64 P) (.node (o130 P) .nil .nil) (.node (o194 P) .nil .nil)) (.node (o96 P) (.node (o162 P) .nil .nil) .nil)) (.node (o46 P) (.node (o80 P) (.node (o146 P) .nil .nil) .nil) (.node (o114 P) (.node (o178 P) .nil .nil) .nil))) (.node (o22 P) (.node (o38 P) (.node (o72 P) (.node (o138 P) .nil .nil) .nil) (.node (o104 P) (.node (o170 P) .nil .nil) .nil)) (.node (o56 P) (.node (o88 P) (.node (o154 P) .nil .nil) .nil) (.node (o122 P) (.node (o186 P) .nil .nil) .nil)))))))
noncomputable def st3 (w : World) (os : OsState) : SharedT := ⟨tree3 w.params, 199, { }, ⟨[]⟩, { }, 444, os⟩
noncomputable def sts3 : List Stmt := (bodyT.drop 10).take 13
noncomputable def o195 (P : Params) : Obj := { cls := Value.type "dict", data := Data.dict #[{ hash := PyData.keyHash P (Str.ofString "__name__"), key := Value.str (Str.ofString "__name__") 165, val := Value.str (Str.ofString "lazycore.pattern_nodes") 564 }, { hash := PyData.keyHash P (Str.ofString "__doc__"), key := Value.str (Str.ofString "__doc__") 166, val := Value.none }, { hash := PyData.keyHash P (Str.ofString "__package__"), key := Value.str (Str.ofString "__package__") 167, val := Value.none }, { hash := PyData.keyHash P (Str.ofString "__loader__"), key := Value.str (Str.ofString "__loader__") 168, val := Value.builtin "__main__.__loader__#opaque" }, { hash := PyData.keyHash P (Str.ofString "__spec__"), key := Value.str (Str.ofString "__spec__") 169, val := Value.none }, { hash := PyData.keyHash P (Str.ofString "__annotations__"), key := Value.str (Str.ofString "__annotations__") 170, val := Value.ref 6 }, { hash := PyData.keyHash P (Str.ofString "__builtins__"), key := Value.str (Str.ofString "__builtins__") 171, val := Value.ref 4 }, { hash := PyData.keyHash P (Str.ofString "__file__"), key := Value.str (Str.ofString "__file__") 173, val := Value.str (Str.ofString "/claim/cut.py") 172 }, { hash := PyData.keyHash P (Str.ofString "__cached__"), key := Value.str (Str.ofString "__cached__") 174, val := Value.none }, { hash := PyData.keyHash P (Str.ofString "_wall"), key := Value.str (Str.ofString "_wall") 193, val := Value.ref 21 }, { hash := PyData.keyHash P (Str.ofString "LazyError"), key := Value.str (Str.ofString "LazyError") 226, val := Value.ref 39 }, { hash := PyData.keyHash P (Str.ofString "FixityError"), key := Value.str (Str.ofString "FixityError") 242, val := Value.ref 52 }, { hash := PyData.keyHash P (Str.ofString "rows_of"), key := Value.str (Str.ofString "rows_of") 250, val := Value.ref 59 }, { hash := PyData.keyHash P (Str.ofString "Node"), key := Value.str (Str.ofString "Node") 286, val := Value.ref 83 }, { hash := PyData.keyHash P (Str.ofString "Op"), key := Value.str (Str.ofString "Op") 321, val := Value.ref 112 }, { hash := PyData.keyHash P (Str.ofString "COLON"), key := Value.str (Str.ofString "COLON") 325, val := Value.str (Str.ofString ":") 324 }, { hash := PyData.keyHash P (Str.ofString "Fixity"), key := Value.str (Str.ofString "Fixity") 356, val := Value.ref 131 }, { hash := PyData.keyHash P (Str.ofString "usual"), key := Value.str (Str.ofString "usual") 362, val := Value.ref 142 }, { hash := PyData.keyHash P (Str.ofString "of_minus"), key := Value.str (Str.ofString "of_minus") 368, val := Value.ref 149 }, { hash := PyData.keyHash P (Str.ofString "of_colon"), key := Value.str (Str.ofString "of_colon") 374, val := Value.ref 156 }, { hash := PyData.keyHash P (Str.ofString "fixity_in"), key := Value.str (Str.ofString "fixity_in") 383, val := Value.ref 163 }, { hash := PyData.keyHash P (Str.ofString "MINUS"), key := Value.str (Str.ofString "MINUS") 387, val := Value.str (Str.ofString "-") 386 }, { hash := PyData.keyHash P (Str.ofString "BINARY"), key := Value.str (Str.ofString "BINARY") 389, val := Value.int 0 388 }, { hash := PyData.keyHash P (Str.ofString "NEGATING"), key := Value.str (Str.ofString "NEGATING") 391, val := Value.int 1 390 }, { hash := PyData.keyHash P (Str.ofString "OPEN"), key := Value.str (Str.ofString "OPEN") 393, val := Value.int 2 392 }, { hash := PyData.keyHash P (Str.ofString "Waiting"), key := Value.str (Str.ofString "Waiting") 426, val := Value.ref 180 }, { hash := PyData.keyHash P (Str.ofString "check_beside"), key := Value.str (Str.ofString "check_beside") 435, val := Value.ref 191 }, { hash := PyData.keyHash P (Str.ofString "binds_first"), key := Value.str (Str.ofString "binds_first") 443, val := Value.ref 198 }, { hash := PyData.keyHash P (Str.ofString "Binder"), key := Value.str (Str.ofString "Binder") 552, val := Value.ref 271 }, { hash := PyData.keyHash P (Str.ofString "bound"), key := Value.str (Str.ofString "bound") 563, val := Value.ref 282 }] 30 }
noncomputable def o196 (P : Params) : Obj := { cls := Value.none, data := Data.fields #[Value.int 1 0, Value.int 0 0, Value.ref 20, Value.int 5 0, Value.int 0 0, Value.ref 27, Value.int 11 0, Value.int 0 0, Value.ref 48, Value.int 14 0, Value.int 0 0, Value.ref 58, Value.int 16 0, Value.int 0 0, Value.ref 65, Value.int 23 0, Value.int 0 0, Value.ref 93, Value.int 34 0, Value.int 0 0, Value.ref 120, Value.int 39 0, Value.int 0 0, Value.ref 141, Value.int 41 0, Value.int 0 0, Value.ref 148, Value.int 43 0, Value.int 0 0, Value.ref 155, Value.int 45 0, Value.int 0 0, Value.ref 162, Value.int 55 0, Value.int 0 0, Value.ref 169, Value.int 61 0, Value.int 0 0, Value.ref 190, Value.int 64 0, Value.int 0 0, Value.ref 197, Value.int 66 0, Value.int 0 0, Value.ref 204, Value.int 134 0, Value.int 0 0, Value.ref 281] }
noncomputable def o197 (P : Params) : Obj := { cls := Value.type "tuple", data := Data.seq #[] }
noncomputable def o198 (P : Params) : Obj := { cls := Value.type "builtin_function_or_method", data := Data.fields #[Value.builtin "type.__prepare__", Value.type "type"] }
noncomputable def o199 (P : Params) : Obj := { cls := Value.type "dict", data := Data.dict #[{ hash := PyData.keyHash P (Str.ofString "__module__"), key := Value.str (Str.ofString "__module__") 451, val := Value.str (Str.ofString "lazycore.bind_order") 384 }, { hash := PyData.keyHash P (Str.ofString "__qualname__"), key := Value.str (Str.ofString "__qualname__") 453, val := Value.str (Str.ofString "Binder") 452 }, { hash := PyData.keyHash P (Str.ofString "__firstlineno__"), key := Value.str (Str.ofString "__firstlineno__") 455, val := Value.int 66 454 }, { hash := PyData.keyHash P (Str.ofString "__init__"), key := Value.str (Str.ofString "__init__") 465, val := Value.ref 212 }, { hash := PyData.keyHash P (Str.ofString "wait"), key := Value.str (Str.ofString "wait") 475, val := Value.ref 219 }, { hash := PyData.keyHash P (Str.ofString "open"), key := Value.str (Str.ofString "open") 483, val := Value.ref 226 }, { hash := PyData.keyHash P (Str.ofString "take_minus"), key := Value.str (Str.ofString "take_minus") 492, val := Value.ref 233 }, { hash := PyData.keyHash P (Str.ofString "take_operator"), key := Value.str (Str.ofString "take_operator") 501, val := Value.ref 240 }, { hash := PyData.keyHash P (Str.ofString "settle"), key := Value.str (Str.ofString "settle") 511, val := Value.ref 247 }, { hash := PyData.keyHash P (Str.ofString "reduce"), key := Value.str (Str.ofString "reduce") 522, val := Value.ref 254 }, { hash := PyData.keyHash P (Str.ofString "take"), key := Value.str (Str.ofString "take") 532, val := Value.ref 261 }, { hash := PyData.keyHash P (Str.ofString "whole"), key := Value.str (Str.ofString "whole") 539, val := Value.ref 268 }, { hash := PyData.keyHash P (Str.ofString "__static_attributes__"), key := Value.str (Str.ofString "__static_attributes__") 545, val := Value.ref 269 }] 13 }
noncomputable def o200 (P : Params) : Obj := { cls := Value.type "tuple", data := Data.seq #[] }
noncomputable def o201 (P : Params) : Obj := { cls := Value.none, data := Data.fields #[Value.int 68 0, Value.int 4 0, Value.ref 211, Value.int 75 0, Value.int 4 0, Value.ref 218, Value.int 78 0, Value.int 4 0, Value.ref 225, Value.int 81 0, Value.int 4 0, Value.ref 232, Value.int 87 0, Value.int 4 0, Value.ref 239, Value.int 92 0, Value.int 4 0, Value.ref 246, Value.int 101 0, Value.int 4 0, Value.ref 253, Value.int 112 0, Value.int 4 0, Value.ref 260, Value.int 130 0, Value.int 4 0, Value.ref 267] }
noncomputable def o202 (P : Params) : Obj := { cls := Value.type "code", data := Data.fields #[Value.str (Str.ofString "Binder") 446, Value.str (Str.ofString "Binder") 447, Value.str (Str.ofString "/claim/cut.py") 448, Value.int 66 0, Value.int 0 0, Value.int 0 0, Value.int 0 0, Value.int 0 0, Value.ref 202, Value.bool Bool.false, Value.int 181 0, Value.ref 203, Value.none, Value.none, Value.none, Value.none, Value.int 449 0, Value.int 66 0, Value.str (Str.ofString "/claim/cut.py") 450] }
noncomputable def o203 (P : Params) : Obj := { cls := Value.type "frame", slots := #[some (Value.ref 204), some (Value.ref 3), some (Value.ref 201), none, some (Value.str (Str.ofString "lazycore.bind_order") 384), none, some (Value.ref 0)] }
noncomputable def o204 (P : Params) : Obj := { cls := Value.type "tuple", data := Data.seq #[] }
noncomputable def o205 (P : Params) : Obj := { cls := Value.none, data := Data.fields #[] }
noncomputable def o206 (P : Params) : Obj := { cls := Value.type "tuple", data := Data.seq #[Value.str (Str.ofString "self") 459, Value.str (Str.ofString "known") 460, Value.str (Str.ofString "make") 461, Value.str (Str.ofString "negate") 462] }
noncomputable def o207 (P : Params) : Obj := { cls := Value.type "tuple", data := Data.seq #[] }
noncomputable def o208r (P : Params) : Obj := { cls := Value.none, data := Data.func { name := Str.ofString "__init__", qualname := Str.ofString "Binder.__init__", params := fA 15, body := FuncBody.stmts (fB 15), scope := fS 15, globals := 0, closure := [], defaults := Value.none, kwdefaults := Value.none } }
noncomputable def o208 : Params → Obj := by
  refine' (?f : (K : Params → Obj) → (∀ P, K P = o208r P) → (Params → Obj)) _ ?h
  case f => exact fun K _ => K
  case h =>
    intro P
    conv =>
      rhs
      delta o208r
      conv => pattern (occs := *) fB _; all_goals whnf
      conv => pattern (occs := *) fA _; all_goals whnf
      conv => pattern (occs := *) fS _; all_goals whnf
noncomputable def o209 (P : Params) : Obj := { cls := Value.type "code", data := Data.fields #[Value.str (Str.ofString "__init__") 456, Value.str (Str.ofString "Binder.__init__") 457, Value.str (Str.ofString "/claim/cut.py") 458, Value.int 68 0, Value.int 4 0, Value.int 0 0, Value.int 0 0, Value.int 3 0, Value.ref 206, Value.bool Bool.true, Value.int 181 0, Value.ref 207, Value.none, Value.ref 208, Value.ref 209, Value.ref 210, Value.int 463 0, Value.int 68 0, Value.str (Str.ofString "/claim/cut.py") 464] }
noncomputable def o210r (P : Params) : Obj := { cls := Value.type "function", data := Data.func { name := Str.ofString "__init__", qualname := Str.ofString "Binder.__init__", params := fA 15, body := FuncBody.stmts (fB 15), scope := fS 15, globals := 3, closure := [], defaults := Value.none, kwdefaults := Value.none, pyModule := Value.str (Str.ofString "lazycore.bind_order") 384, code := Value.ref 211 } }
noncomputable def o210 : Params → Obj := by
  refine' (?f : (K : Params → Obj) → (∀ P, K P = o210r P) → (Params → Obj)) _ ?h
  case f => exact fun K _ => K
  case h =>
    intro P
    conv =>
      rhs
      delta o210r
      conv => pattern (occs := *) fB _; all_goals whnf
      conv => pattern (occs := *) fA _; all_goals whnf
      conv => pattern (occs := *) fS _; all_goals whnf
noncomputable def o211 (P : Params) : Obj := { cls := Value.type "tuple", data := Data.seq #[] }
noncomputable def o212 (P : Params) : Obj := { cls := Value.none, data := Data.fields #[] }
noncomputable def o213 (P : Params) : Obj := { cls := Value.type "tuple", data := Data.seq #[Value.str (Str.ofString "self") 469, Value.str (Str.ofString "op") 470, Value.str (Str.ofString "fixity") 471, Value.str (Str.ofString "sort") 472] }
noncomputable def o214 (P : Params) : Obj := { cls := Value.type "tuple", data := Data.seq #[] }
noncomputable def o215r (P : Params) : Obj := { cls := Value.none, data := Data.func { name := Str.ofString "wait", qualname := Str.ofString "Binder.wait", params := fA 16, body := FuncBody.stmts (fB 16), scope := fS 16, globals := 0, closure := [], defaults := Value.none, kwdefaults := Value.none } }
noncomputable def o215 : Params → Obj := by
  refine' (?f : (K : Params → Obj) → (∀ P, K P = o215r P) → (Params → Obj)) _ ?h
  case f => exact fun K _ => K
  case h =>
    intro P
    conv =>
      rhs
      delta o215r
      conv => pattern (occs := *) fB _; all_goals whnf
      conv => pattern (occs := *) fA _; all_goals whnf
      conv => pattern (occs := *) fS _; all_goals whnf
noncomputable def o216 (P : Params) : Obj := { cls := Value.type "code", data := Data.fields #[Value.str (Str.ofString "wait") 466, Value.str (Str.ofString "Binder.wait") 467, Value.str (Str.ofString "/claim/cut.py") 468, Value.int 75 0, Value.int 4 0, Value.int 0 0, Value.int 0 0, Value.int 3 0, Value.ref 213, Value.bool Bool.true, Value.int 181 0, Value.ref 214, Value.none, Value.ref 215, Value.ref 216, Value.ref 217, Value.int 473 0, Value.int 75 0, Value.str (Str.ofString "/claim/cut.py") 474] }
noncomputable def o217r (P : Params) : Obj := { cls := Value.type "function", data := Data.func { name := Str.ofString "wait", qualname := Str.ofString "Binder.wait", params := fA 16, body := FuncBody.stmts (fB 16), scope := fS 16, globals := 3, closure := [], defaults := Value.none, kwdefaults := Value.none, pyModule := Value.str (Str.ofString "lazycore.bind_order") 384, code := Value.ref 218 } }
noncomputable def o217 : Params → Obj := by
  refine' (?f : (K : Params → Obj) → (∀ P, K P = o217r P) → (Params → Obj)) _ ?h
  case f => exact fun K _ => K
  case h =>
    intro P
    conv =>
      rhs
      delta o217r
      conv => pattern (occs := *) fB _; all_goals whnf
      conv => pattern (occs := *) fA _; all_goals whnf
      conv => pattern (occs := *) fS _; all_goals whnf
noncomputable def o218 (P : Params) : Obj := { cls := Value.type "tuple", data := Data.seq #[] }
noncomputable def o219 (P : Params) : Obj := { cls := Value.none, data := Data.fields #[] }
noncomputable def o220 (P : Params) : Obj := { cls := Value.type "tuple", data := Data.seq #[Value.str (Str.ofString "self") 479, Value.str (Str.ofString "op") 480] }
noncomputable def o221 (P : Params) : Obj := { cls := Value.type "tuple", data := Data.seq #[] }
noncomputable def o222r (P : Params) : Obj := { cls := Value.none, data := Data.func { name := Str.ofString "open", qualname := Str.ofString "Binder.open", params := fA 17, body := FuncBody.stmts (fB 17), scope := fS 17, globals := 0, closure := [], defaults := Value.none, kwdefaults := Value.none } }
noncomputable def o222 : Params → Obj := by
  refine' (?f : (K : Params → Obj) → (∀ P, K P = o222r P) → (Params → Obj)) _ ?h
  case f => exact fun K _ => K
  case h =>
    intro P
    conv =>
      rhs
      delta o222r
      conv => pattern (occs := *) fB _; all_goals whnf
      conv => pattern (occs := *) fA _; all_goals whnf
      conv => pattern (occs := *) fS _; all_goals whnf
noncomputable def o223 (P : Params) : Obj := { cls := Value.type "code", data := Data.fields #[Value.str (Str.ofString "open") 476, Value.str (Str.ofString "Binder.open") 477, Value.str (Str.ofString "/claim/cut.py") 478, Value.int 78 0, Value.int 2 0, Value.int 0 0, Value.int 0 0, Value.int 3 0, Value.ref 220, Value.bool Bool.true, Value.int 181 0, Value.ref 221, Value.none, Value.ref 222, Value.ref 223, Value.ref 224, Value.int 481 0, Value.int 78 0, Value.str (Str.ofString "/claim/cut.py") 482] }
noncomputable def o224r (P : Params) : Obj := { cls := Value.type "function", data := Data.func { name := Str.ofString "open", qualname := Str.ofString "Binder.open", params := fA 17, body := FuncBody.stmts (fB 17), scope := fS 17, globals := 3, closure := [], defaults := Value.none, kwdefaults := Value.none, pyModule := Value.str (Str.ofString "lazycore.bind_order") 384, code := Value.ref 225 } }
noncomputable def o224 : Params → Obj := by
  refine' (?f : (K : Params → Obj) → (∀ P, K P = o224r P) → (Params → Obj)) _ ?h
  case f => exact fun K _ => K
  case h =>
    intro P
    conv =>
      rhs
      delta o224r
      conv => pattern (occs := *) fB _; all_goals whnf
      conv => pattern (occs := *) fA _; all_goals whnf
      conv => pattern (occs := *) fS _; all_goals whnf
noncomputable def o225 (P : Params) : Obj := { cls := Value.type "tuple", data := Data.seq #[] }
noncomputable def o226 (P : Params) : Obj := { cls := Value.none, data := Data.fields #[] }
noncomputable def o227 (P : Params) : Obj := { cls := Value.type "tuple", data := Data.seq #[Value.str (Str.ofString "self") 487, Value.str (Str.ofString "op") 488, Value.str (Str.ofString "fixity") 489] }
noncomputable def o228 (P : Params) : Obj := { cls := Value.type "tuple", data := Data.seq #[] }
noncomputable def o229r (P : Params) : Obj := { cls := Value.none, data := Data.func { name := Str.ofString "take_minus", qualname := Str.ofString "Binder.take_minus", params := fA 18, body := FuncBody.stmts (fB 18), scope := fS 18, globals := 0, closure := [], defaults := Value.none, kwdefaults := Value.none } }
noncomputable def o229 : Params → Obj := by
  refine' (?f : (K : Params → Obj) → (∀ P, K P = o229r P) → (Params → Obj)) _ ?h
  case f => exact fun K _ => K
  case h =>
    intro P
    conv =>
      rhs
      delta o229r
      conv => pattern (occs := *) fB _; all_goals whnf
      conv => pattern (occs := *) fA _; all_goals whnf
      conv => pattern (occs := *) fS _; all_goals whnf
noncomputable def o230 (P : Params) : Obj := { cls := Value.type "code", data := Data.fields #[Value.str (Str.ofString "take_minus") 484, Value.str (Str.ofString "Binder.take_minus") 485, Value.str (Str.ofString "/claim/cut.py") 486, Value.int 81 0, Value.int 2 0, Value.int 0 0, Value.int 0 0, Value.int 3 0, Value.ref 227, Value.bool Bool.true, Value.int 181 0, Value.ref 228, Value.none, Value.ref 229, Value.ref 230, Value.ref 231, Value.int 490 0, Value.int 81 0, Value.str (Str.ofString "/claim/cut.py") 491] }
noncomputable def o231r (P : Params) : Obj := { cls := Value.type "function", data := Data.func { name := Str.ofString "take_minus", qualname := Str.ofString "Binder.take_minus", params := fA 18, body := FuncBody.stmts (fB 18), scope := fS 18, globals := 3, closure := [], defaults := Value.none, kwdefaults := Value.none, pyModule := Value.str (Str.ofString "lazycore.bind_order") 384, code := Value.ref 232 } }
noncomputable def o231 : Params → Obj := by
  refine' (?f : (K : Params → Obj) → (∀ P, K P = o231r P) → (Params → Obj)) _ ?h
  case f => exact fun K _ => K
  case h =>
    intro P
    conv =>
      rhs
      delta o231r
      conv => pattern (occs := *) fB _; all_goals whnf
      conv => pattern (occs := *) fA _; all_goals whnf
      conv => pattern (occs := *) fS _; all_goals whnf
noncomputable def o232 (P : Params) : Obj := { cls := Value.type "tuple", data := Data.seq #[] }
noncomputable def o233 (P : Params) : Obj := { cls := Value.none, data := Data.fields #[] }
noncomputable def o234 (P : Params) : Obj := { cls := Value.type "tuple", data := Data.seq #[Value.str (Str.ofString "self") 496, Value.str (Str.ofString "op") 497, Value.str (Str.ofString "fixity") 498] }
noncomputable def o235 (P : Params) : Obj := { cls := Value.type "tuple", data := Data.seq #[] }
noncomputable def o236r (P : Params) : Obj := { cls := Value.none, data := Data.func { name := Str.ofString "take_operator", qualname := Str.ofString "Binder.take_operator", params := fA 19, body := FuncBody.stmts (fB 19), scope := fS 19, globals := 0, closure := [], defaults := Value.none, kwdefaults := Value.none } }
noncomputable def o236 : Params → Obj := by
  refine' (?f : (K : Params → Obj) → (∀ P, K P = o236r P) → (Params → Obj)) _ ?h
  case f => exact fun K _ => K
  case h =>
    intro P
    conv =>
      rhs
      delta o236r
      conv => pattern (occs := *) fB _; all_goals whnf
      conv => pattern (occs := *) fA _; all_goals whnf
      conv => pattern (occs := *) fS _; all_goals whnf
noncomputable def o237 (P : Params) : Obj := { cls := Value.type "code", data := Data.fields #[Value.str (Str.ofString "take_operator") 493, Value.str (Str.ofString "Binder.take_operator") 494, Value.str (Str.ofString "/claim/cut.py") 495, Value.int 87 0, Value.int 2 0, Value.int 0 0, Value.int 0 0, Value.int 3 0, Value.ref 234, Value.bool Bool.true, Value.int 181 0, Value.ref 235, Value.none, Value.ref 236, Value.ref 237, Value.ref 238, Value.int 499 0, Value.int 87 0, Value.str (Str.ofString "/claim/cut.py") 500] }
noncomputable def o238r (P : Params) : Obj := { cls := Value.type "function", data := Data.func { name := Str.ofString "take_operator", qualname := Str.ofString "Binder.take_operator", params := fA 19, body := FuncBody.stmts (fB 19), scope := fS 19, globals := 3, closure := [], defaults := Value.none, kwdefaults := Value.none, pyModule := Value.str (Str.ofString "lazycore.bind_order") 384, code := Value.ref 239 } }
noncomputable def o238 : Params → Obj := by
  refine' (?f : (K : Params → Obj) → (∀ P, K P = o238r P) → (Params → Obj)) _ ?h
  case f => exact fun K _ => K
  case h =>
    intro P
    conv =>
      rhs
      delta o238r
      conv => pattern (occs := *) fB _; all_goals whnf
      conv => pattern (occs := *) fA _; all_goals whnf
      conv => pattern (occs := *) fS _; all_goals whnf
noncomputable def o239 (P : Params) : Obj := { cls := Value.type "tuple", data := Data.seq #[] }
noncomputable def o240 (P : Params) : Obj := { cls := Value.none, data := Data.fields #[] }
noncomputable def o241 (P : Params) : Obj := { cls := Value.type "tuple", data := Data.seq #[Value.str (Str.ofString "self") 505, Value.str (Str.ofString "fixity") 506, Value.str (Str.ofString "place") 507, Value.str (Str.ofString "going") 508] }
noncomputable def o242 (P : Params) : Obj := { cls := Value.type "tuple", data := Data.seq #[] }
noncomputable def o243r (P : Params) : Obj := { cls := Value.none, data := Data.func { name := Str.ofString "settle", qualname := Str.ofString "Binder.settle", params := fA 20, body := FuncBody.stmts (fB 20), scope := fS 20, globals := 0, closure := [], defaults := Value.none, kwdefaults := Value.none } }
noncomputable def o243 : Params → Obj := by
  refine' (?f : (K : Params → Obj) → (∀ P, K P = o243r P) → (Params → Obj)) _ ?h
  case f => exact fun K _ => K
  case h =>
    intro P
    conv =>
      rhs
      delta o243r
      conv => pattern (occs := *) fB _; all_goals whnf
      conv => pattern (occs := *) fA _; all_goals whnf
      conv => pattern (occs := *) fS _; all_goals whnf
noncomputable def o244 (P : Params) : Obj := { cls := Value.type "code", data := Data.fields #[Value.str (Str.ofString "settle") 502, Value.str (Str.ofString "Binder.settle") 503, Value.str (Str.ofString "/claim/cut.py") 504, Value.int 92 0, Value.int 3 0, Value.int 0 0, Value.int 0 0, Value.int 3 0, Value.ref 241, Value.bool Bool.true, Value.int 181 0, Value.ref 242, Value.none, Value.ref 243, Value.ref 244, Value.ref 245, Value.int 509 0, Value.int 92 0, Value.str (Str.ofString "/claim/cut.py") 510] }
noncomputable def o245r (P : Params) : Obj := { cls := Value.type "function", data := Data.func { name := Str.ofString "settle", qualname := Str.ofString "Binder.settle", params := fA 20, body := FuncBody.stmts (fB 20), scope := fS 20, globals := 3, closure := [], defaults := Value.none, kwdefaults := Value.none, pyModule := Value.str (Str.ofString "lazycore.bind_order") 384, code := Value.ref 246 } }
noncomputable def o245 : Params → Obj := by
  refine' (?f : (K : Params → Obj) → (∀ P, K P = o245r P) → (Params → Obj)) _ ?h
  case f => exact fun K _ => K
  case h =>
    intro P
    conv =>
      rhs
      delta o245r
      conv => pattern (occs := *) fB _; all_goals whnf
      conv => pattern (occs := *) fA _; all_goals whnf
      conv => pattern (occs := *) fS _; all_goals whnf
noncomputable def o246 (P : Params) : Obj := { cls := Value.type "tuple", data := Data.seq #[] }
noncomputable def o247 (P : Params) : Obj := { cls := Value.none, data := Data.fields #[] }
noncomputable def o248 (P : Params) : Obj := { cls := Value.type "tuple", data := Data.seq #[Value.str (Str.ofString "self") 515, Value.str (Str.ofString "place") 516, Value.str (Str.ofString "last") 517, Value.str (Str.ofString "right") 518, Value.str (Str.ofString "left") 519] }
noncomputable def o249 (P : Params) : Obj := { cls := Value.type "tuple", data := Data.seq #[] }
noncomputable def o250r (P : Params) : Obj := { cls := Value.none, data := Data.func { name := Str.ofString "reduce", qualname := Str.ofString "Binder.reduce", params := fA 21, body := FuncBody.stmts (fB 21), scope := fS 21, globals := 0, closure := [], defaults := Value.none, kwdefaults := Value.none } }
noncomputable def o250 : Params → Obj := by
  refine' (?f : (K : Params → Obj) → (∀ P, K P = o250r P) → (Params → Obj)) _ ?h
  case f => exact fun K _ => K
  case h =>
    intro P
    conv =>
      rhs
      delta o250r
      conv => pattern (occs := *) fB _; all_goals whnf
      conv => pattern (occs := *) fA _; all_goals whnf
      conv => pattern (occs := *) fS _; all_goals whnf
noncomputable def o251 (P : Params) : Obj := { cls := Value.type "code", data := Data.fields #[Value.str (Str.ofString "reduce") 512, Value.str (Str.ofString "Binder.reduce") 513, Value.str (Str.ofString "/claim/cut.py") 514, Value.int 101 0, Value.int 2 0, Value.int 0 0, Value.int 0 0, Value.int 3 0, Value.ref 248, Value.bool Bool.true, Value.int 181 0, Value.ref 249, Value.none, Value.ref 250, Value.ref 251, Value.ref 252, Value.int 520 0, Value.int 101 0, Value.str (Str.ofString "/claim/cut.py") 521] }
noncomputable def o252r (P : Params) : Obj := { cls := Value.type "function", data := Data.func { name := Str.ofString "reduce", qualname := Str.ofString "Binder.reduce", params := fA 21, body := FuncBody.stmts (fB 21), scope := fS 21, globals := 3, closure := [], defaults := Value.none, kwdefaults := Value.none, pyModule := Value.str (Str.ofString "lazycore.bind_order") 384, code := Value.ref 253 } }
noncomputable def o252 : Params → Obj := by
  refine' (?f : (K : Params → Obj) → (∀ P, K P = o252r P) → (Params → Obj)) _ ?h
  case f => exact fun K _ => K
  case h =>
    intro P
    conv =>
      rhs
      delta o252r
      conv => pattern (occs := *) fB _; all_goals whnf
      conv => pattern (occs := *) fA _; all_goals whnf
      conv => pattern (occs := *) fS _; all_goals whnf
noncomputable def o253 (P : Params) : Obj := { cls := Value.type "tuple", data := Data.seq #[] }
noncomputable def o254 (P : Params) : Obj := { cls := Value.none, data := Data.fields #[] }
noncomputable def o255 (P : Params) : Obj := { cls := Value.type "tuple", data := Data.seq #[Value.str (Str.ofString "self") 526, Value.str (Str.ofString "items") 527, Value.str (Str.ofString "is_due") 528, Value.str (Str.ofString "item") 529] }
noncomputable def o256 (P : Params) : Obj := { cls := Value.type "tuple", data := Data.seq #[] }
noncomputable def o257r (P : Params) : Obj := { cls := Value.none, data := Data.func { name := Str.ofString "take", qualname := Str.ofString "Binder.take", params := fA 22, body := FuncBody.stmts (fB 22), scope := fS 22, globals := 0, closure := [], defaults := Value.none, kwdefaults := Value.none } }
noncomputable def o257 : Params → Obj := by
  refine' (?f : (K : Params → Obj) → (∀ P, K P = o257r P) → (Params → Obj)) _ ?h
  case f => exact fun K _ => K
  case h =>
    intro P
    conv =>
      rhs
      delta o257r
      conv => pattern (occs := *) fB _; all_goals whnf
      conv => pattern (occs := *) fA _; all_goals whnf
      conv => pattern (occs := *) fS _; all_goals whnf
noncomputable def o258 (P : Params) : Obj := { cls := Value.type "code", data := Data.fields #[Value.str (Str.ofString "take") 523, Value.str (Str.ofString "Binder.take") 524, Value.str (Str.ofString "/claim/cut.py") 525, Value.int 112 0, Value.int 2 0, Value.int 0 0, Value.int 0 0, Value.int 3 0, Value.ref 255, Value.bool Bool.true, Value.int 181 0, Value.ref 256, Value.none, Value.ref 257, Value.ref 258, Value.ref 259, Value.int 530 0, Value.int 112 0, Value.str (Str.ofString "/claim/cut.py") 531] }
noncomputable def o259r (P : Params) : Obj := { cls := Value.type "function", data := Data.func { name := Str.ofString "take", qualname := Str.ofString "Binder.take", params := fA 22, body := FuncBody.stmts (fB 22), scope := fS 22, globals := 3, closure := [], defaults := Value.none, kwdefaults := Value.none, pyModule := Value.str (Str.ofString "lazycore.bind_order") 384, code := Value.ref 260 } }
noncomputable def o259 : Params → Obj := by
  refine' (?f : (K : Params → Obj) → (∀ P, K P = o259r P) → (Params → Obj)) _ ?h
  case f => exact fun K _ => K
  case h =>
    intro P
    conv =>
      rhs
      delta o259r
      conv => pattern (occs := *) fB _; all_goals whnf
      conv => pattern (occs := *) fA _; all_goals whnf
      conv => pattern (occs := *) fS _; all_goals whnf
noncomputable def o260 (P : Params) : Obj := { cls := Value.type "tuple", data := Data.seq #[] }
noncomputable def o261 (P : Params) : Obj := { cls := Value.none, data := Data.fields #[] }
noncomputable def o262 (P : Params) : Obj := { cls := Value.type "tuple", data := Data.seq #[Value.str (Str.ofString "self") 536] }
noncomputable def o263 (P : Params) : Obj := { cls := Value.type "tuple", data := Data.seq #[] }
noncomputable def o264r (P : Params) : Obj := { cls := Value.none, data := Data.func { name := Str.ofString "whole", qualname := Str.ofString "Binder.whole", params := fA 23, body := FuncBody.stmts (fB 23), scope := fS 23, globals := 0, closure := [], defaults := Value.none, kwdefaults := Value.none } }
noncomputable def o264 : Params → Obj := by
  refine' (?f : (K : Params → Obj) → (∀ P, K P = o264r P) → (Params → Obj)) _ ?h
  case f => exact fun K _ => K
  case h =>
    intro P
    conv =>
      rhs
      delta o264r
      conv => pattern (occs := *) fB _; all_goals whnf
      conv => pattern (occs := *) fA _; all_goals whnf
      conv => pattern (occs := *) fS _; all_goals whnf
noncomputable def o265 (P : Params) : Obj := { cls := Value.type "code", data := Data.fields #[Value.str (Str.ofString "whole") 533, Value.str (Str.ofString "Binder.whole") 534, Value.str (Str.ofString "/claim/cut.py") 535, Value.int 130 0, Value.int 1 0, Value.int 0 0, Value.int 0 0, Value.int 3 0, Value.ref 262, Value.bool Bool.true, Value.int 181 0, Value.ref 263, Value.none, Value.ref 264, Value.ref 265, Value.ref 266, Value.int 537 0, Value.int 130 0, Value.str (Str.ofString "/claim/cut.py") 538] }
noncomputable def o266r (P : Params) : Obj := { cls := Value.type "function", data := Data.func { name := Str.ofString "whole", qualname := Str.ofString "Binder.whole", params := fA 23, body := FuncBody.stmts (fB 23), scope := fS 23, globals := 3, closure := [], defaults := Value.none, kwdefaults := Value.none, pyModule := Value.str (Str.ofString "lazycore.bind_order") 384, code := Value.ref 267 } }
noncomputable def o266 : Params → Obj := by
  refine' (?f : (K : Params → Obj) → (∀ P, K P = o266r P) → (Params → Obj)) _ ?h
  case f => exact fun K _ => K
  case h =>
    intro P
    conv =>
      rhs
      delta o266r
      conv => pattern (occs := *) fB _; all_goals whnf
      conv => pattern (occs := *) fA _; all_goals whnf
      conv => pattern (occs := *) fS _; all_goals whnf
noncomputable def o267 (P : Params) : Obj := { cls := Value.type "tuple", data := Data.seq #[Value.str (Str.ofString "known") 540, Value.str (Str.ofString "make") 541, Value.str (Str.ofString "negate") 542, Value.str (Str.ofString "operands") 543, Value.str (Str.ofString "waiting") 544] }
noncomputable def o268 (P : Params) : Obj := { cls := Value.type "dict", data := Data.dict #[{ hash := PyData.keyHash P (Str.ofString "__module__"), key := Value.str (Str.ofString "__module__") 451, val := Value.str (Str.ofString "lazycore.bind_order") 384 }, { hash := PyData.keyHash P (Str.ofString "__firstlineno__"), key := Value.str (Str.ofString "__firstlineno__") 455, val := Value.int 66 454 }, { hash := PyData.keyHash P (Str.ofString "__init__"), key := Value.str (Str.ofString "__init__") 465, val := Value.ref 212 }, { hash := PyData.keyHash P (Str.ofString "wait"), key := Value.str (Str.ofString "wait") 475, val := Value.ref 219 }, { hash := PyData.keyHash P (Str.ofString "open"), key := Value.str (Str.ofString "open") 483, val := Value.ref 226 }, { hash := PyData.keyHash P (Str.ofString "take_minus"), key := Value.str (Str.ofString "take_minus") 492, val := Value.ref 233 }, { hash := PyData.keyHash P (Str.ofString "take_operator"), key := Value.str (Str.ofString "take_operator") 501, val := Value.ref 240 }, { hash := PyData.keyHash P (Str.ofString "settle"), key := Value.str (Str.ofString "settle") 511, val := Value.ref 247 }, { hash := PyData.keyHash P (Str.ofString "reduce"), key := Value.str (Str.ofString "reduce") 522, val := Value.ref 254 }, { hash := PyData.keyHash P (Str.ofString "take"), key := Value.str (Str.ofString "take") 532, val := Value.ref 261 }, { hash := PyData.keyHash P (Str.ofString "whole"), key := Value.str (Str.ofString "whole") 539, val := Value.ref 268 }, { hash := PyData.keyHash P (Str.ofString "__static_attributes__"), key := Value.str (Str.ofString "__static_attributes__") 545, val := Value.ref 269 }, { hash := PyData.keyHash P (Str.ofString "__dict__"), key := Value.str (Str.ofString "__dict__") 547, val := Value.ref 272 }, { hash := PyData.keyHash P (Str.ofString "__weakref__"), key := Value.str (Str.ofString "__weakref__") 549, val := Value.ref 273 }, { hash := PyData.keyHash P (Str.ofString "__doc__"), key := Value.str (Str.ofString "__doc__") 550, val := Value.none }] 4 }
noncomputable def o269 (P : Params) : Obj := { cls := Value.type "type", data := Data.cls { name := Str.ofString "Binder", bases := [Value.type "object"], mro := [Value.ref 271, Value.type "object"], ns := 270, qualname := Str.ofString "Binder" }, slots := #[none, none, some (Value.str (Str.ofString "Binder") 444), some (Value.str (Str.ofString "Binder") 452), some (Value.builtin "object.__new__"), some (Value.bool Bool.true)] }
noncomputable def o270 (P : Params) : Obj := { cls := Value.type "getset_descriptor", data := Data.fields #[Value.str (Str.ofString "__dict__") 546, Value.ref 271, Value.builtin "function.__dict__", Value.builtin "function.__dict__#set"] }
noncomputable def o271 (P : Params) : Obj := { cls := Value.type "getset_descriptor", data := Data.fields #[Value.str (Str.ofString "__weakref__") 548, Value.ref 271, Value.builtin "ExceptionGroup.__weakref__", Value.none] }
noncomputable def o272 (P : Params) : Obj := { cls := Value.type "super", data := Data.fields #[Value.ref 271, Value.ref 271, Value.ref 271] }
noncomputable def o273 (P : Params) : Obj := { cls := Value.type "builtin_function_or_method", data := Data.fields #[Value.builtin "object.__init_subclass__", Value.ref 271] }
noncomputable def o274 (P : Params) : Obj := { cls := Value.type "tuple", data := Data.seq #[] }
noncomputable def o275 (P : Params) : Obj := { cls := Value.none, data := Data.fields #[] }
noncomputable def o276 (P : Params) : Obj := { cls := Value.type "tuple", data := Data.seq #[Value.str (Str.ofString "items") 556, Value.str (Str.ofString "known") 557, Value.str (Str.ofString "make") 558, Value.str (Str.ofString "negate") 559, Value.str (Str.ofString "binder") 560] }
noncomputable def o277 (P : Params) : Obj := { cls := Value.type "tuple", data := Data.seq #[] }
noncomputable def o278r (P : Params) : Obj := { cls := Value.none, data := Data.func { name := Str.ofString "bound", qualname := Str.ofString "bound", params := fA 24, body := FuncBody.stmts (fB 24), scope := fS 24, globals := 0, closure := [], defaults := Value.none, kwdefaults := Value.none } }
noncomputable def o278 : Params → Obj := by
  refine' (?f : (K : Params → Obj) → (∀ P, K P = o278r P) → (Params → Obj)) _ ?h
  case f => exact fun K _ => K
  case h =>
    intro P
    conv =>
      rhs
      delta o278r
      conv => pattern (occs := *) fB _; all_goals whnf
      conv => pattern (occs := *) fA _; all_goals whnf
      conv => pattern (occs := *) fS _; all_goals whnf
noncomputable def o279 (P : Params) : Obj := { cls := Value.type "code", data := Data.fields #[Value.str (Str.ofString "bound") 553, Value.str (Str.ofString "bound") 554, Value.str (Str.ofString "/claim/cut.py") 555, Value.int 134 0, Value.int 4 0, Value.int 0 0, Value.int 0 0, Value.int 3 0, Value.ref 276, Value.bool Bool.true, Value.int 181 0, Value.ref 277, Value.none, Value.ref 278, Value.ref 279, Value.ref 280, Value.int 561 0, Value.int 134 0, Value.str (Str.ofString "/claim/cut.py") 562] }
noncomputable def o280r (P : Params) : Obj := { cls := Value.type "function", data := Data.func { name := Str.ofString "bound", qualname := Str.ofString "bound", params := fA 24, body := FuncBody.stmts (fB 24), scope := fS 24, globals := 3, closure := [], defaults := Value.none, kwdefaults := Value.none, pyModule := Value.str (Str.ofString "lazycore.bind_order") 384, code := Value.ref 281 } }
noncomputable def o280 : Params → Obj := by
  refine' (?f : (K : Params → Obj) → (∀ P, K P = o280r P) → (Params → Obj)) _ ?h
  case f => exact fun K _ => K
  case h =>
    intro P
    conv =>
      rhs
      delta o280r
      conv => pattern (occs := *) fB _; all_goals whnf
      conv => pattern (occs := *) fA _; all_goals whnf
      conv => pattern (occs := *) fS _; all_goals whnf
noncomputable def tree4 (P : Params) : BT := (.node (boot_o_0 P) (.node (boot_o_1 P) (.node (o195 P) (.node (boot_o_7 P) (.node (o7 P) (.node (o23 P) (.node (o57 P) (.node (o123 P) (.node (o253 P) .nil .nil) .nil) (.node (o187 P) .nil .nil)) (.node (o89 P) (.node (o155 P) .nil .nil) (.node (o221 P) .nil .nil))) (.node (o39 P) (.node (o73 P) (.node (o139 P) (.node (o269 P) .nil .nil) .nil) (.node (o205 P) .nil .nil)) (.node (o105 P) (.node (o171 P) .nil .nil) (.node (o237 P) .nil .nil)))) (.node (o15 P) (.node (o31 P) (.node (o65 P) (.node (o131 P) (.node (o261 P) .nil .nil) .nil) (.node (o197 P) .nil .nil)) (.node (o97 P) (.node (o163 P) .nil .nil) (.node (o229 P) .nil .nil))) (.node (o47 P) (.node (o81 P) (.node (o147 P) (.node (o277 P) .nil .nil) .nil) (.node (o213 P) .nil .nil)) (.node (o115 P) (.node (o179 P) .nil .nil) (.node (o245 P) .nil .nil))))) (.node (o0 P) (.node (o11 P) (.node (o27 P) (.node (o61 P) (.node (o127 P) (.node (o257 P) .nil .nil) .nil) (.node (o191 P) .nil .nil)) (.node (o93 P) (.node (o159 P) .nil .nil) (.node (o225 P) .nil .nil))) (.node (o43 P) (.node (o77 P) (.node (o143 P) (.node (o273 P) .nil .nil) .nil) (.node (o209 P) .nil .nil)) (.node (o111 P) (.node (o175 P) .nil .nil) (.node (o241 P) .nil .nil)))) (.node (o19 P) (.node (o35 P) (.node (o69 P) (.node (o135 P) (.node (o265 P) .nil .nil) .nil) (.node (o201 P) .nil .nil)) (.node (o101 P) (.node (o167 P) .nil .nil) (.node (o233 P) .nil .nil))) (.node (o51 P) (.node (o85 P) (.node (o151 P) .nil .nil) (.node (o217 P) .nil .nil)) (.node (o119 P) (.node (o183 P) .nil .nil) (.node (o249 P) .nil .nil)))))) (.node (boot_o_5 P) (.node (boot_o_9 P) (.node (o9 P) (.node (o25 P) (.node (o59 P) (.node (o125 P) (.node (o255 P) .nil .nil) .nil) (.node (o189 P) .nil .nil)) (.node (o91 P) (.node (o157 P) .nil .nil) (.node (o223 P) .nil .nil))) (.node (o41 P) (.node (o75 P) (.node (o141 P) (.node (o271 P) .nil .nil) .nil) (.node (o207 P) .nil .nil)) (.node (o107 P) (.node (o173 P) .nil .nil) (.node (o239 P) .nil .nil)))) (.node (o17 P) (.node (o33 P) (.node (o67 P) (.node (o133 P) (.node (o263 P) .nil .nil) .nil) (.node (o199 P) .nil .nil)) (.node (o99 P) (.node (o165 P) .nil .nil) (.node (o231 P) .nil .nil))) (.node (o49 P) (.node (o83 P) (.node (o149 P) (.node (o279 P) .nil .nil) .nil) (.node (o215 P) .nil .nil)) (.node (o117 P) (.node (o181 P) .nil .nil) (.node (o247 P) .nil .nil))))) (.node (o2 P) (.node (o13 P) (.node (o29 P) (.node (o63 P) (.node (o129 P) (.node (o259 P) .nil .nil) .nil) (.node (o193 P) .nil .nil)) (.node (o95 P) (.node (o161 P) .nil .nil) (.node (o227 P) .nil .nil))) (.node (o45 P) (.node (o79 P) (.node (o145 P) (.node (o275 P) .nil .nil) .nil) (.node (o211 P) .nil .nil)) (.node (o113 P) (.node (o177 P) .nil .nil) (.node (o243 P) .nil .nil)))) (.node (o21 P) (.node (o37 P) (.node (o71 P) (.node (o137 P) (.node (o267 P) .nil .nil) .nil) (.node (o203 P) .nil .nil)) (.node (o103 P) (.node (o169 P) .nil .nil) (.node (o235 P) .nil .nil))) (.node (o55 P) (.node (o87 P) (.node (o153 P) .nil .nil) (.node (o219 P) .nil .nil)) (.node (o121 P) (.node (o185 P) .nil .nil) (.node (o251 P) .nil .nil))))))) (.node (o4 P) (.node (boot_o_4 P) (.node (boot_o_8 P) (.node (o8 P) (.node (o24 P) (.node (o58 P) (.node (o124 P) (.node (o254 P) .nil .nil) .nil) (.node (o188 P) .nil .nil)) (.node (o90 P) (.node (o156 P) .nil .nil) (.node (o222 P) .nil .nil))) (.node (o40 P) (.node (o74 P) (.node (o140 P) (.node (o270 P) .nil .nil) .nil) (.node (o206 P) .nil .nil)) (.node (o106 P) (.node (o172 P) .nil .nil) (.node (o238 P) .nil .nil)))) (.node (o16 P) (.node (o32 P) (.node (o66 P) (.node (o132 P) (.node (o262 P) .nil .nil) .nil) (.node (o198 P) .nil .nil)) (.node (o98 P) (.node (o164 P) .nil .nil) (.node (o230 P) .nil .nil))) (.node (o48 P) (.node (o82 P) (.node (o148 P) (.node (o278 P) .nil .nil) .nil) (.node (o214 P) .nil .nil)) (.node (o116 P) (.node (o180 P) .nil .nil) (.node (o246 P) .nil .nil))))) (.node (o196 P) (.node (o12 P) (.node (o28 P) (.node (o62 P) (.node (o128 P) (.node (o258 P) .nil .nil) .nil) (.node (o192 P) .nil .nil)) (.node (o94 P) (.node (o160 P) .nil .nil) (.node (o226 P) .nil .nil))) (.node (o44 P) (.node (o78 P) (.node (o144 P) (.node (o274 P) .nil .nil) .nil) (.node (o210 P) .nil .nil)) (.node (o112 P) (.node (o176 P) .nil .nil) (.node (o242 P) .nil .nil)))) (.node (o20 P) (.node (o36 P) (.node (o70 P) (.node (o136 P) (.node (o266 P) .nil .nil) .nil) (.node (o202 P) .nil .nil)) (.node (o102 P) (.node (o168 P) .nil .nil) (.node (o234 P) .nil .nil))) (.node (o54 P) (.node (o86 P) (.node (o152 P) .nil .nil) (.node (o218 P) .nil .nil)) (.node (o120 P) (.node (o184 P) .nil .nil) (.node (o250 P) .nil .nil)))))) (.node (boot_o_6 P) (.node (boot_o_10 P) (.node (o10 P) (.node (o26 P) (.node (o60 P) (.node (o126 P) (.node (o256 P) .nil .nil) .nil) (.node (o190 P) .nil .nil)) (.node (o92 P) (.node (o158 P) .nil .nil) (.node (o224 P) .nil .nil))) (.node (o42 P) (.node (o76 P) (.node (o142 P) (.node (o272 P) .nil .nil) .nil) (.node (o208 P) .nil .nil)) (.node (o108 P) (.node (o174 P) .nil .nil) (.node (o240 P) .nil .nil)))) (.node (o18 P) (.node (o34 P) (.node (o68 P) (.node (o134 P) (.node (o264 P) .nil .nil) .nil) (.node (o200 P) .nil .nil)) (.node (o100 P) (.node (o166 P) .nil .nil) (.node (o232 P) .nil .nil))) (.node (o50 P) (.node (o84 P) (.node (o150 P) (.node (o280 P) .nil .nil) .nil) (.node (o216 P) .nil .nil)) (.node (o118 P) (.node (o182 P) .nil .nil) (.node (o248 P) .nil .nil))))) (.node (o3 P) (.node (o14 P) (.node (o30 P) (.node (o64 P) (.node (o130 P) (.node (o260 P) .nil .nil) .nil) (.node (o194 P) .nil .nil)) (.node (o96 P) (.node (o162 P) .nil .nil) (.node (o228 P) .nil .nil))) (.node (o46 P) (.node (o80 P) (.node (o146 P) (.node (o276 P) .nil .nil) .nil) (.node (o212 P) .nil .nil)) (.node (o114 P) (.node (o178 P) .nil .nil) (.node (o244 P) .nil .nil)))) (.node (o22 P) (.node (o38 P) (.node (o72 P) (.node (o138 P) (.node (o268 P) .nil .nil) .nil) (.node (o204 P) .nil .nil)) (.node (o104 P) (.node (o170 P) .nil .nil) (.node (o236 P) .nil .nil))) (.node (o56 P) (.node (o88 P) (.node (o154 P) .nil .nil) (.node (o220 P) .nil .nil)) (.node (o122 P) (.node (o186 P) .nil .nil) (.node (o252 P) .nil .nil))))))))
noncomputable def st4 (w : World) (os : OsState) : SharedT := ⟨tree4 w.params, 283, { }, ⟨[]⟩, { }, 566, os⟩
noncomputable def sts4 : List Stmt := (bodyT.drop 23).take 3
noncomputable def o281 (P : Params) : Obj := { cls := Value.type "dict", data := Data.dict #[{ hash := PyData.keyHash P (Str.ofString "__name__"), key := Value.str (Str.ofString "__name__") 165, val := Value.str (Str.ofString "lazycore.pattern_nodes") 564 }, { hash := PyData.keyHash P (Str.ofString "__doc__"), key := Value.str (Str.ofString "__doc__") 166, val := Value.none }, { hash := PyData.keyHash P (Str.ofString "__package__"), key := Value.str (Str.ofString "__package__") 167, val := Value.none }, { hash := PyData.keyHash P (Str.ofString "__loader__"), key := Value.str (Str.ofString "__loader__") 168, val := Value.builtin "__main__.__loader__#opaque" }, { hash := PyData.keyHash P (Str.ofString "__spec__"), key := Value.str (Str.ofString "__spec__") 169, val := Value.none }, { hash := PyData.keyHash P (Str.ofString "__annotations__"), key := Value.str (Str.ofString "__annotations__") 170, val := Value.ref 6 }, { hash := PyData.keyHash P (Str.ofString "__builtins__"), key := Value.str (Str.ofString "__builtins__") 171, val := Value.ref 4 }, { hash := PyData.keyHash P (Str.ofString "__file__"), key := Value.str (Str.ofString "__file__") 173, val := Value.str (Str.ofString "/claim/cut.py") 172 }, { hash := PyData.keyHash P (Str.ofString "__cached__"), key := Value.str (Str.ofString "__cached__") 174, val := Value.none }, { hash := PyData.keyHash P (Str.ofString "_wall"), key := Value.str (Str.ofString "_wall") 193, val := Value.ref 21 }, { hash := PyData.keyHash P (Str.ofString "LazyError"), key := Value.str (Str.ofString "LazyError") 226, val := Value.ref 39 }, { hash := PyData.keyHash P (Str.ofString "FixityError"), key := Value.str (Str.ofString "FixityError") 242, val := Value.ref 52 }, { hash := PyData.keyHash P (Str.ofString "rows_of"), key := Value.str (Str.ofString "rows_of") 250, val := Value.ref 59 }, { hash := PyData.keyHash P (Str.ofString "Node"), key := Value.str (Str.ofString "Node") 286, val := Value.ref 83 }, { hash := PyData.keyHash P (Str.ofString "Op"), key := Value.str (Str.ofString "Op") 321, val := Value.ref 112 }, { hash := PyData.keyHash P (Str.ofString "COLON"), key := Value.str (Str.ofString "COLON") 325, val := Value.str (Str.ofString ":") 324 }, { hash := PyData.keyHash P (Str.ofString "Fixity"), key := Value.str (Str.ofString "Fixity") 356, val := Value.ref 131 }, { hash := PyData.keyHash P (Str.ofString "usual"), key := Value.str (Str.ofString "usual") 362, val := Value.ref 142 }, { hash := PyData.keyHash P (Str.ofString "of_minus"), key := Value.str (Str.ofString "of_minus") 368, val := Value.ref 149 }, { hash := PyData.keyHash P (Str.ofString "of_colon"), key := Value.str (Str.ofString "of_colon") 374, val := Value.ref 156 }, { hash := PyData.keyHash P (Str.ofString "fixity_in"), key := Value.str (Str.ofString "fixity_in") 383, val := Value.ref 163 }, { hash := PyData.keyHash P (Str.ofString "MINUS"), key := Value.str (Str.ofString "MINUS") 387, val := Value.str (Str.ofString "-") 386 }, { hash := PyData.keyHash P (Str.ofString "BINARY"), key := Value.str (Str.ofString "BINARY") 389, val := Value.int 0 388 }, { hash := PyData.keyHash P (Str.ofString "NEGATING"), key := Value.str (Str.ofString "NEGATING") 391, val := Value.int 1 390 }, { hash := PyData.keyHash P (Str.ofString "OPEN"), key := Value.str (Str.ofString "OPEN") 393, val := Value.int 2 392 }, { hash := PyData.keyHash P (Str.ofString "Waiting"), key := Value.str (Str.ofString "Waiting") 426, val := Value.ref 180 }, { hash := PyData.keyHash P (Str.ofString "check_beside"), key := Value.str (Str.ofString "check_beside") 435, val := Value.ref 191 }, { hash := PyData.keyHash P (Str.ofString "binds_first"), key := Value.str (Str.ofString "binds_first") 443, val := Value.ref 198 }, { hash := PyData.keyHash P (Str.ofString "Binder"), key := Value.str (Str.ofString "Binder") 552, val := Value.ref 271 }, { hash := PyData.keyHash P (Str.ofString "bound"), key := Value.str (Str.ofString "bound") 563, val := Value.ref 282 }, { hash := PyData.keyHash P (Str.ofString "PVar"), key := Value.str (Str.ofString "PVar") 598, val := Value.ref 307 }, { hash := PyData.keyHash P (Str.ofString "PLit"), key := Value.str (Str.ofString "PLit") 633, val := Value.ref 334 }] 32 }
noncomputable def o282 (P : Params) : Obj := { cls := Value.none, data := Data.fields #[Value.int 1 0, Value.int 0 0, Value.ref 20, Value.int 5 0, Value.int 0 0, Value.ref 27, Value.int 11 0, Value.int 0 0, Value.ref 48, Value.int 14 0, Value.int 0 0, Value.ref 58, Value.int 16 0, Value.int 0 0, Value.ref 65, Value.int 23 0, Value.int 0 0, Value.ref 93, Value.int 34 0, Value.int 0 0, Value.ref 120, Value.int 39 0, Value.int 0 0, Value.ref 141, Value.int 41 0, Value.int 0 0, Value.ref 148, Value.int 43 0, Value.int 0 0, Value.ref 155, Value.int 45 0, Value.int 0 0, Value.ref 162, Value.int 55 0, Value.int 0 0, Value.ref 169, Value.int 61 0, Value.int 0 0, Value.ref 190, Value.int 64 0, Value.int 0 0, Value.ref 197, Value.int 66 0, Value.int 0 0, Value.ref 204, Value.int 134 0, Value.int 0 0, Value.ref 281, Value.int 139 0, Value.int 0 0, Value.ref 288, Value.int 147 0, Value.int 0 0, Value.ref 315] }
noncomputable def o283 (P : Params) : Obj := { cls := Value.type "type", data := Data.cls { name := Str.ofString "Node", bases := [Value.type "object"], mro := [Value.ref 83, Value.type "object"], ns := 82, qualname := Str.ofString "Node", subclasses := [Value.ref 112, Value.ref 307, Value.ref 334] }, slots := #[none, none, some (Value.str (Str.ofString "Node") 251), some (Value.str (Str.ofString "Node") 259), some (Value.builtin "object.__new__"), some (Value.bool Bool.true)] }
noncomputable def o284 (P : Params) : Obj := { cls := Value.type "tuple", data := Data.seq #[Value.ref 83] }
noncomputable def o285 (P : Params) : Obj := { cls := Value.type "builtin_function_or_method", data := Data.fields #[Value.builtin "type.__prepare__", Value.type "type"] }
noncomputable def o286 (P : Params) : Obj := { cls := Value.type "dict", data := Data.dict #[{ hash := PyData.keyHash P (Str.ofString "__module__"), key := Value.str (Str.ofString "__module__") 573, val := Value.str (Str.ofString "lazycore.pattern_nodes") 564 }, { hash := PyData.keyHash P (Str.ofString "__qualname__"), key := Value.str (Str.ofString "__qualname__") 575, val := Value.str (Str.ofString "PVar") 574 }, { hash := PyData.keyHash P (Str.ofString "__firstlineno__"), key := Value.str (Str.ofString "__firstlineno__") 577, val := Value.int 139 576 }, { hash := PyData.keyHash P (Str.ofString "__init__"), key := Value.str (Str.ofString "__init__") 586, val := Value.ref 297 }, { hash := PyData.keyHash P (Str.ofString "row"), key := Value.str (Str.ofString "row") 593, val := Value.ref 304 }, { hash := PyData.keyHash P (Str.ofString "__static_attributes__"), key := Value.str (Str.ofString "__static_attributes__") 595, val := Value.ref 305 }] 6 }
noncomputable def o287 (P : Params) : Obj := { cls := Value.type "tuple", data := Data.seq #[] }
noncomputable def o288 (P : Params) : Obj := { cls := Value.none, data := Data.fields #[Value.int 141 0, Value.int 4 0, Value.ref 296, Value.int 145 0, Value.int 4 0, Value.ref 303] }
noncomputable def o289 (P : Params) : Obj := { cls := Value.type "code", data := Data.fields #[Value.str (Str.ofString "PVar") 568, Value.str (Str.ofString "PVar") 569, Value.str (Str.ofString "/claim/cut.py") 570, Value.int 139 0, Value.int 0 0, Value.int 0 0, Value.int 0 0, Value.int 0 0, Value.ref 286, Value.bool Bool.false, Value.int 181 0, Value.ref 287, Value.none, Value.none, Value.none, Value.none, Value.int 571 0, Value.int 139 0, Value.str (Str.ofString "/claim/cut.py") 572] }
noncomputable def o290 (P : Params) : Obj := { cls := Value.type "frame", slots := #[some (Value.ref 288), some (Value.ref 3), some (Value.ref 285), none, some (Value.str (Str.ofString "lazycore.pattern_nodes") 564), none, some (Value.ref 0)] }
noncomputable def o291 (P : Params) : Obj := { cls := Value.type "tuple", data := Data.seq #[Value.none] }
noncomputable def o292 (P : Params) : Obj := { cls := Value.type "tuple", data := Data.seq #[] }
noncomputable def o293 (P : Params) : Obj := { cls := Value.none, data := Data.fields #[] }
noncomputable def o294 (P : Params) : Obj := { cls := Value.type "tuple", data := Data.seq #[Value.str (Str.ofString "self") 581, Value.str (Str.ofString "name") 582, Value.str (Str.ofString "place") 583] }
noncomputable def o295 (P : Params) : Obj := { cls := Value.type "tuple", data := Data.seq #[] }
noncomputable def o296r (P : Params) : Obj := { cls := Value.none, data := Data.func { name := Str.ofString "__init__", qualname := Str.ofString "PVar.__init__", params := fA 25, body := FuncBody.stmts (fB 25), scope := fS 25, globals := 0, closure := [], defaults := Value.none, kwdefaults := Value.none } }
noncomputable def o296 : Params → Obj := by
  refine' (?f : (K : Params → Obj) → (∀ P, K P = o296r P) → (Params → Obj)) _ ?h
  case f => exact fun K _ => K
  case h =>
    intro P
    conv =>
      rhs
      delta o296r
      conv => pattern (occs := *) fB _; all_goals whnf
      conv => pattern (occs := *) fA _; all_goals whnf
      conv => pattern (occs := *) fS _; all_goals whnf
noncomputable def o297 (P : Params) : Obj := { cls := Value.type "code", data := Data.fields #[Value.str (Str.ofString "__init__") 578, Value.str (Str.ofString "PVar.__init__") 579, Value.str (Str.ofString "/claim/cut.py") 580, Value.int 141 0, Value.int 3 0, Value.int 0 0, Value.int 0 0, Value.int 3 0, Value.ref 291, Value.bool Bool.true, Value.int 181 0, Value.ref 292, Value.none, Value.ref 293, Value.ref 294, Value.ref 295, Value.int 584 0, Value.int 141 0, Value.str (Str.ofString "/claim/cut.py") 585] }
noncomputable def o298r (P : Params) : Obj := { cls := Value.type "function", data := Data.func { name := Str.ofString "__init__", qualname := Str.ofString "PVar.__init__", params := fA 25, body := FuncBody.stmts (fB 25), scope := fS 25, globals := 3, closure := [], defaults := Value.ref 290, kwdefaults := Value.none, pyModule := Value.str (Str.ofString "lazycore.pattern_nodes") 564, code := Value.ref 296 } }
noncomputable def o298 : Params → Obj := by
  refine' (?f : (K : Params → Obj) → (∀ P, K P = o298r P) → (Params → Obj)) _ ?h
  case f => exact fun K _ => K
  case h =>
    intro P
    conv =>
      rhs
      delta o298r
      conv => pattern (occs := *) fB _; all_goals whnf
      conv => pattern (occs := *) fA _; all_goals whnf
      conv => pattern (occs := *) fS _; all_goals whnf
noncomputable def o299 (P : Params) : Obj := { cls := Value.type "tuple", data := Data.seq #[] }
noncomputable def o300 (P : Params) : Obj := { cls := Value.none, data := Data.fields #[] }
noncomputable def o301 (P : Params) : Obj := { cls := Value.type "tuple", data := Data.seq #[Value.str (Str.ofString "self") 590] }
noncomputable def o302 (P : Params) : Obj := { cls := Value.type "tuple", data := Data.seq #[] }
noncomputable def o303r (P : Params) : Obj := { cls := Value.none, data := Data.func { name := Str.ofString "row", qualname := Str.ofString "PVar.row", params := fA 26, body := FuncBody.stmts (fB 26), scope := fS 4, globals := 0, closure := [], defaults := Value.none, kwdefaults := Value.none } }
noncomputable def o303 : Params → Obj := by
  refine' (?f : (K : Params → Obj) → (∀ P, K P = o303r P) → (Params → Obj)) _ ?h
  case f => exact fun K _ => K
  case h =>
    intro P
    conv =>
      rhs
      delta o303r
      conv => pattern (occs := *) fB _; all_goals whnf
      conv => pattern (occs := *) fA _; all_goals whnf
      conv => pattern (occs := *) fS _; all_goals whnf
noncomputable def o304 (P : Params) : Obj := { cls := Value.type "code", data := Data.fields #[Value.str (Str.ofString "row") 587, Value.str (Str.ofString "PVar.row") 588, Value.str (Str.ofString "/claim/cut.py") 589, Value.int 145 0, Value.int 1 0, Value.int 0 0, Value.int 0 0, Value.int 3 0, Value.ref 298, Value.bool Bool.true, Value.int 181 0, Value.ref 299, Value.none, Value.ref 300, Value.ref 301, Value.ref 302, Value.int 591 0, Value.int 145 0, Value.str (Str.ofString "/claim/cut.py") 592] }
noncomputable def o305r (P : Params) : Obj := { cls := Value.type "function", data := Data.func { name := Str.ofString "row", qualname := Str.ofString "PVar.row", params := fA 26, body := FuncBody.stmts (fB 26), scope := fS 4, globals := 3, closure := [], defaults := Value.none, kwdefaults := Value.none, pyModule := Value.str (Str.ofString "lazycore.pattern_nodes") 564, code := Value.ref 303 } }
noncomputable def o305 : Params → Obj := by
  refine' (?f : (K : Params → Obj) → (∀ P, K P = o305r P) → (Params → Obj)) _ ?h
  case f => exact fun K _ => K
  case h =>
    intro P
    conv =>
      rhs
      delta o305r
      conv => pattern (occs := *) fB _; all_goals whnf
      conv => pattern (occs := *) fA _; all_goals whnf
      conv => pattern (occs := *) fS _; all_goals whnf
noncomputable def o306 (P : Params) : Obj := { cls := Value.type "tuple", data := Data.seq #[Value.str (Str.ofString "name") 594] }
noncomputable def o307 (P : Params) : Obj := { cls := Value.type "dict", data := Data.dict #[{ hash := PyData.keyHash P (Str.ofString "__module__"), key := Value.str (Str.ofString "__module__") 573, val := Value.str (Str.ofString "lazycore.pattern_nodes") 564 }, { hash := PyData.keyHash P (Str.ofString "__firstlineno__"), key := Value.str (Str.ofString "__firstlineno__") 577, val := Value.int 139 576 }, { hash := PyData.keyHash P (Str.ofString "__init__"), key := Value.str (Str.ofString "__init__") 586, val := Value.ref 297 }, { hash := PyData.keyHash P (Str.ofString "row"), key := Value.str (Str.ofString "row") 593, val := Value.ref 304 }, { hash := PyData.keyHash P (Str.ofString "__static_attributes__"), key := Value.str (Str.ofString "__static_attributes__") 595, val := Value.ref 305 }, { hash := PyData.keyHash P (Str.ofString "__doc__"), key := Value.str (Str.ofString "__doc__") 596, val := Value.none }] 2 }
noncomputable def o308 (P : Params) : Obj := { cls := Value.type "type", data := Data.cls { name := Str.ofString "PVar", bases := [Value.ref 83], mro := [Value.ref 307, Value.ref 83, Value.type "object"], ns := 306, qualname := Str.ofString "PVar" }, slots := #[some (Value.ref 283), none, some (Value.str (Str.ofString "PVar") 566), some (Value.str (Str.ofString "PVar") 574), some (Value.builtin "object.__new__"), some (Value.bool Bool.true)] }
noncomputable def o309 (P : Params) : Obj := { cls := Value.type "super", data := Data.fields #[Value.ref 307, Value.ref 307, Value.ref 307] }
noncomputable def o310 (P : Params) : Obj := { cls := Value.type "builtin_function_or_method", data := Data.fields #[Value.builtin "object.__init_subclass__", Value.ref 307] }
noncomputable def o311 (P : Params) : Obj := { cls := Value.type "tuple", data := Data.seq #[Value.ref 83] }
noncomputable def o312 (P : Params) : Obj := { cls := Value.type "builtin_function_or_method", data := Data.fields #[Value.builtin "type.__prepare__", Value.type "type"] }
noncomputable def o313 (P : Params) : Obj := { cls := Value.type "dict", data := Data.dict #[{ hash := PyData.keyHash P (Str.ofString "__module__"), key := Value.str (Str.ofString "__module__") 606, val := Value.str (Str.ofString "lazycore.pattern_nodes") 564 }, { hash := PyData.keyHash P (Str.ofString "__qualname__"), key := Value.str (Str.ofString "__qualname__") 608, val := Value.str (Str.ofString "PLit") 607 }, { hash := PyData.keyHash P (Str.ofString "__firstlineno__"), key := Value.str (Str.ofString "__firstlineno__") 610, val := Value.int 147 609 }, { hash := PyData.keyHash P (Str.ofString "__init__"), key := Value.str (Str.ofString "__init__") 620, val := Value.ref 324 }, { hash := PyData.keyHash P (Str.ofString "row"), key := Value.str (Str.ofString "row") 627, val := Value.ref 331 }, { hash := PyData.keyHash P (Str.ofString "__static_attributes__"), key := Value.str (Str.ofString "__static_attributes__") 630, val := Value.ref 332 }] 6 }
noncomputable def o314 (P : Params) : Obj := { cls := Value.type "tuple", data := Data.seq #[] }
noncomputable def o315 (P : Params) : Obj := { cls := Value.none, data := Data.fields #[Value.int 149 0, Value.int 4 0, Value.ref 323, Value.int 154 0, Value.int 4 0, Value.ref 330] }
noncomputable def o316 (P : Params) : Obj := { cls := Value.type "code", data := Data.fields #[Value.str (Str.ofString "PLit") 601, Value.str (Str.ofString "PLit") 602, Value.str (Str.ofString "/claim/cut.py") 603, Value.int 147 0, Value.int 0 0, Value.int 0 0, Value.int 0 0, Value.int 0 0, Value.ref 313, Value.bool Bool.false, Value.int 181 0, Value.ref 314, Value.none, Value.none, Value.none, Value.none, Value.int 604 0, Value.int 147 0, Value.str (Str.ofString "/claim/cut.py") 605] }
noncomputable def o317 (P : Params) : Obj := { cls := Value.type "frame", slots := #[some (Value.ref 315), some (Value.ref 3), some (Value.ref 312), none, some (Value.str (Str.ofString "lazycore.pattern_nodes") 564), none, some (Value.ref 0)] }
noncomputable def o318 (P : Params) : Obj := { cls := Value.type "tuple", data := Data.seq #[Value.none] }
noncomputable def o319 (P : Params) : Obj := { cls := Value.type "tuple", data := Data.seq #[] }
noncomputable def o320 (P : Params) : Obj := { cls := Value.none, data := Data.fields #[] }
noncomputable def o321 (P : Params) : Obj := { cls := Value.type "tuple", data := Data.seq #[Value.str (Str.ofString "self") 614, Value.str (Str.ofString "kind") 615, Value.str (Str.ofString "value") 616, Value.str (Str.ofString "place") 617] }
noncomputable def o322 (P : Params) : Obj := { cls := Value.type "tuple", data := Data.seq #[] }
noncomputable def o323r (P : Params) : Obj := { cls := Value.none, data := Data.func { name := Str.ofString "__init__", qualname := Str.ofString "PLit.__init__", params := fA 27, body := FuncBody.stmts (fB 27), scope := fS 27, globals := 0, closure := [], defaults := Value.none, kwdefaults := Value.none } }
noncomputable def o323 : Params → Obj := by
  refine' (?f : (K : Params → Obj) → (∀ P, K P = o323r P) → (Params → Obj)) _ ?h
  case f => exact fun K _ => K
  case h =>
    intro P
    conv =>
      rhs
      delta o323r
      conv => pattern (occs := *) fB _; all_goals whnf
      conv => pattern (occs := *) fA _; all_goals whnf
      conv => pattern (occs := *) fS _; all_goals whnf
noncomputable def o324 (P : Params) : Obj := { cls := Value.type "code", data := Data.fields #[Value.str (Str.ofString "__init__") 611, Value.str (Str.ofString "PLit.__init__") 612, Value.str (Str.ofString "/claim/cut.py") 613, Value.int 149 0, Value.int 4 0, Value.int 0 0, Value.int 0 0, Value.int 3 0, Value.ref 318, Value.bool Bool.true, Value.int 181 0, Value.ref 319, Value.none, Value.ref 320, Value.ref 321, Value.ref 322, Value.int 618 0, Value.int 149 0, Value.str (Str.ofString "/claim/cut.py") 619] }
noncomputable def o325r (P : Params) : Obj := { cls := Value.type "function", data := Data.func { name := Str.ofString "__init__", qualname := Str.ofString "PLit.__init__", params := fA 27, body := FuncBody.stmts (fB 27), scope := fS 27, globals := 3, closure := [], defaults := Value.ref 317, kwdefaults := Value.none, pyModule := Value.str (Str.ofString "lazycore.pattern_nodes") 564, code := Value.ref 323 } }
noncomputable def o325 : Params → Obj := by
  refine' (?f : (K : Params → Obj) → (∀ P, K P = o325r P) → (Params → Obj)) _ ?h
  case f => exact fun K _ => K
  case h =>
    intro P
    conv =>
      rhs
      delta o325r
      conv => pattern (occs := *) fB _; all_goals whnf
      conv => pattern (occs := *) fA _; all_goals whnf
      conv => pattern (occs := *) fS _; all_goals whnf
noncomputable def o326 (P : Params) : Obj := { cls := Value.type "tuple", data := Data.seq #[] }
noncomputable def o327 (P : Params) : Obj := { cls := Value.none, data := Data.fields #[] }
noncomputable def o328 (P : Params) : Obj := { cls := Value.type "tuple", data := Data.seq #[Value.str (Str.ofString "self") 624] }
noncomputable def o329 (P : Params) : Obj := { cls := Value.type "tuple", data := Data.seq #[] }
noncomputable def o330r (P : Params) : Obj := { cls := Value.none, data := Data.func { name := Str.ofString "row", qualname := Str.ofString "PLit.row", params := fA 28, body := FuncBody.stmts (fB 28), scope := fS 4, globals := 0, closure := [], defaults := Value.none, kwdefaults := Value.none } }
noncomputable def o330 : Params → Obj := by
  refine' (?f : (K : Params → Obj) → (∀ P, K P = o330r P) → (Params → Obj)) _ ?h
  case f => exact fun K _ => K
  case h =>
    intro P
    conv =>
      rhs
      delta o330r
      conv => pattern (occs := *) fB _; all_goals whnf
      conv => pattern (occs := *) fA _; all_goals whnf
      conv => pattern (occs := *) fS _; all_goals whnf
noncomputable def o331 (P : Params) : Obj := { cls := Value.type "code", data := Data.fields #[Value.str (Str.ofString "row") 621, Value.str (Str.ofString "PLit.row") 622, Value.str (Str.ofString "/claim/cut.py") 623, Value.int 154 0, Value.int 1 0, Value.int 0 0, Value.int 0 0, Value.int 3 0, Value.ref 325, Value.bool Bool.true, Value.int 181 0, Value.ref 326, Value.none, Value.ref 327, Value.ref 328, Value.ref 329, Value.int 625 0, Value.int 154 0, Value.str (Str.ofString "/claim/cut.py") 626] }
noncomputable def o332r (P : Params) : Obj := { cls := Value.type "function", data := Data.func { name := Str.ofString "row", qualname := Str.ofString "PLit.row", params := fA 28, body := FuncBody.stmts (fB 28), scope := fS 4, globals := 3, closure := [], defaults := Value.none, kwdefaults := Value.none, pyModule := Value.str (Str.ofString "lazycore.pattern_nodes") 564, code := Value.ref 330 } }
noncomputable def o332 : Params → Obj := by
  refine' (?f : (K : Params → Obj) → (∀ P, K P = o332r P) → (Params → Obj)) _ ?h
  case f => exact fun K _ => K
  case h =>
    intro P
    conv =>
      rhs
      delta o332r
      conv => pattern (occs := *) fB _; all_goals whnf
      conv => pattern (occs := *) fA _; all_goals whnf
      conv => pattern (occs := *) fS _; all_goals whnf
noncomputable def o333 (P : Params) : Obj := { cls := Value.type "tuple", data := Data.seq #[Value.str (Str.ofString "kind") 628, Value.str (Str.ofString "value") 629] }
noncomputable def o334 (P : Params) : Obj := { cls := Value.type "dict", data := Data.dict #[{ hash := PyData.keyHash P (Str.ofString "__module__"), key := Value.str (Str.ofString "__module__") 606, val := Value.str (Str.ofString "lazycore.pattern_nodes") 564 }, { hash := PyData.keyHash P (Str.ofString "__firstlineno__"), key := Value.str (Str.ofString "__firstlineno__") 610, val := Value.int 147 609 }, { hash := PyData.keyHash P (Str.ofString "__init__"), key := Value.str (Str.ofString "__init__") 620, val := Value.ref 324 }, { hash := PyData.keyHash P (Str.ofString "row"), key := Value.str (Str.ofString "row") 627, val := Value.ref 331 }, { hash := PyData.keyHash P (Str.ofString "__static_attributes__"), key := Value.str (Str.ofString "__static_attributes__") 630, val := Value.ref 332 }, { hash := PyData.keyHash P (Str.ofString "__doc__"), key := Value.str (Str.ofString "__doc__") 631, val := Value.none }] 2 }
noncomputable def o335 (P : Params) : Obj := { cls := Value.type "type", data := Data.cls { name := Str.ofString "PLit", bases := [Value.ref 83], mro := [Value.ref 334, Value.ref 83, Value.type "object"], ns := 333, qualname := Str.ofString "PLit" }, slots := #[some (Value.ref 310), none, some (Value.str (Str.ofString "PLit") 599), some (Value.str (Str.ofString "PLit") 607), some (Value.builtin "object.__new__"), some (Value.bool Bool.true)] }
noncomputable def o336 (P : Params) : Obj := { cls := Value.type "super", data := Data.fields #[Value.ref 334, Value.ref 334, Value.ref 334] }
noncomputable def o337 (P : Params) : Obj := { cls := Value.type "builtin_function_or_method", data := Data.fields #[Value.builtin "object.__init_subclass__", Value.ref 334] }
noncomputable def tree5 (P : Params) : BT := (.node (boot_o_0 P) (.node (boot_o_1 P) (.node (o281 P) (.node (boot_o_7 P) (.node (o7 P) (.node (o23 P) (.node (o57 P) (.node (o123 P) (.node (o253 P) .nil .nil) .nil) (.node (o187 P) (.node (o320 P) .nil .nil) .nil)) (.node (o89 P) (.node (o155 P) (.node (o288 P) .nil .nil) .nil) (.node (o221 P) .nil .nil))) (.node (o39 P) (.node (o73 P) (.node (o139 P) (.node (o269 P) .nil .nil) .nil) (.node (o205 P) (.node (o336 P) .nil .nil) .nil)) (.node (o105 P) (.node (o171 P) (.node (o304 P) .nil .nil) .nil) (.node (o237 P) .nil .nil)))) (.node (o15 P) (.node (o31 P) (.node (o65 P) (.node (o131 P) (.node (o261 P) .nil .nil) .nil) (.node (o197 P) (.node (o328 P) .nil .nil) .nil)) (.node (o97 P) (.node (o163 P) (.node (o296 P) .nil .nil) .nil) (.node (o229 P) .nil .nil))) (.node (o47 P) (.node (o81 P) (.node (o147 P) (.node (o277 P) .nil .nil) .nil) (.node (o213 P) .nil .nil)) (.node (o115 P) (.node (o179 P) (.node (o312 P) .nil .nil) .nil) (.node (o245 P) .nil .nil))))) (.node (o0 P) (.node (o11 P) (.node (o27 P) (.node (o61 P) (.node (o127 P) (.node (o257 P) .nil .nil) .nil) (.node (o191 P) (.node (o324 P) .nil .nil) .nil)) (.node (o93 P) (.node (o159 P) (.node (o292 P) .nil .nil) .nil) (.node (o225 P) .nil .nil))) (.node (o43 P) (.node (o283 P) (.node (o143 P) (.node (o273 P) .nil .nil) .nil) (.node (o209 P) .nil .nil)) (.node (o111 P) (.node (o175 P) (.node (o308 P) .nil .nil) .nil) (.node (o241 P) .nil .nil)))) (.node (o19 P) (.node (o35 P) (.node (o69 P) (.node (o135 P) (.node (o265 P) .nil .nil) .nil) (.node (o201 P) (.node (o332 P) .nil .nil) .nil)) (.node (o101 P) (.node (o167 P) (.node (o300 P) .nil .nil) .nil) (.node (o233 P) .nil .nil))) (.node (o51 P) (.node (o85 P) (.node (o151 P) (.node (o284 P) .nil .nil) .nil) (.node (o217 P) .nil .nil)) (.node (o119 P) (.node (o183 P) (.node (o316 P) .nil .nil) .nil) (.node (o249 P) .nil .nil)))))) (.node (boot_o_5 P) (.node (boot_o_9 P) (.node (o9 P) (.node (o25 P) (.node (o59 P) (.node (o125 P) (.node (o255 P) .nil .nil) .nil) (.node (o189 P) (.node (o322 P) .nil .nil) .nil)) (.node (o91 P) (.node (o157 P) (.node (o290 P) .nil .nil) .nil) (.node (o223 P) .nil .nil))) (.node (o41 P) (.node (o75 P) (.node (o141 P) (.node (o271 P) .nil .nil) .nil) (.node (o207 P) .nil .nil)) (.node (o107 P) (.node (o173 P) (.node (o306 P) .nil .nil) .nil) (.node (o239 P) .nil .nil)))) (.node (o17 P) (.node (o33 P) (.node (o67 P) (.node (o133 P) (.node (o263 P) .nil .nil) .nil) (.node (o199 P) (.node (o330 P) .nil .nil) .nil)) (.node (o99 P) (.node (o165 P) (.node (o298 P) .nil .nil) .nil) (.node (o231 P) .nil .nil))) (.node (o49 P) (.node (o83 P) (.node (o149 P) (.node (o279 P) .nil .nil) .nil) (.node (o215 P) .nil .nil)) (.node (o117 P) (.node (o181 P) (.node (o314 P) .nil .nil) .nil) (.node (o247 P) .nil .nil))))) (.node (o2 P) (.node (o13 P) (.node (o29 P) (.node (o63 P) (.node (o129 P) (.node (o259 P) .nil .nil) .nil) (.node (o193 P) (.node (o326 P) .nil .nil) .nil)) (.node (o95 P) (.node (o161 P) (.node (o294 P) .nil .nil) .nil) (.node (o227 P) .nil .nil))) (.node (o45 P) (.node (o79 P) (.node (o145 P) (.node (o275 P) .nil .nil) .nil) (.node (o211 P) .nil .nil)) (.node (o113 P) (.node (o177 P) (.node (o310 P) .nil .nil) .nil) (.node (o243 P) .nil .nil)))) (.node (o21 P) (.node (o37 P) (.node (o71 P) (.node (o137 P) (.node (o267 P) .nil .nil) .nil) (.node (o203 P) (.node (o334 P) .nil .nil) .nil)) (.node (o103 P) (.node (o169 P) (.node (o302 P) .nil .nil) .nil) (.node (o235 P) .nil .nil))) (.node (o55 P) (.node (o87 P) (.node (o153 P) (.node (o286 P) .nil .nil) .nil) (.node (o219 P) .nil .nil)) (.node (o121 P) (.node (o185 P) (.node (o318 P) .nil .nil) .nil) (.node (o251 P) .nil .nil))))))) (.node (o4 P) (.node (boot_o_4 P) (.node (boot_o_8 P) (.node (o8 P) (.node (o24 P) (.node (o58 P) (.node (o124 P) (.node (o254 P) .nil .nil) .nil) (.node (o188 P) (.node (o321 P) .nil .nil) .nil)) (.node (o90 P) (.node (o156 P) (.node (o289 P) .nil .nil) .nil) (.node (o222 P) .nil .nil))) (.node (o40 P) (.node (o74 P) (.node (o140 P) (.node (o270 P) .nil .nil) .nil) (.node (o206 P) (.node (o337 P) .nil .nil) .nil)) (.node (o106 P) (.node (o172 P) (.node (o305 P) .nil .nil) .nil) (.node (o238 P) .nil .nil)))) (.node (o16 P) (.node (o32 P) (.node (o66 P) (.node (o132 P) (.node (o262 P) .nil .nil) .nil) (.node (o198 P) (.node (o329 P) .nil .nil) .nil)) (.node (o98 P) (.node (o164 P) (.node (o297 P) .nil .nil) .nil) (.node (o230 P) .nil .nil))) (.node (o48 P) (.node (o82 P) (.node (o148 P) (.node (o278 P) .nil .nil) .nil) (.node (o214 P) .nil .nil)) (.node (o116 P) (.node (o180 P) (.node (o313 P) .nil .nil) .nil) (.node (o246 P) .nil .nil))))) (.node (o282 P) (.node (o12 P) (.node (o28 P) (.node (o62 P) (.node (o128 P) (.node (o258 P) .nil .nil) .nil) (.node (o192 P) (.node (o325 P) .nil .nil) .nil)) (.node (o94 P) (.node (o160 P) (.node (o293 P) .nil .nil) .nil) (.node (o226 P) .nil .nil))) (.node (o44 P) (.node (o78 P) (.node (o144 P) (.node (o274 P) .nil .nil) .nil) (.node (o210 P) .nil .nil)) (.node (o112 P) (.node (o176 P) (.node (o309 P) .nil .nil) .nil) (.node (o242 P) .nil .nil)))) (.node (o20 P) (.node (o36 P) (.node (o70 P) (.node (o136 P) (.node (o266 P) .nil .nil) .nil) (.node (o202 P) (.node (o333 P) .nil .nil) .nil)) (.node (o102 P) (.node (o168 P) (.node (o301 P) .nil .nil) .nil) (.node (o234 P) .nil .nil))) (.node (o54 P) (.node (o86 P) (.node (o152 P) (.node (o285 P) .nil .nil) .nil) (.node (o218 P) .nil .nil)) (.node (o120 P) (.node (o184 P) (.node (o317 P) .nil .nil) .nil) (.node (o250 P) .nil .nil)))))) (.node (boot_o_6 P) (.node (boot_o_10 P) (.node (o10 P) (.node (o26 P) (.node (o60 P) (.node (o126 P) (.node (o256 P) .nil .nil) .nil) (.node (o190 P) (.node (o323 P) .nil .nil) .nil)) (.node (o92 P) (.node (o158 P) (.node (o291 P) .nil .nil) .nil) (.node (o224 P) .nil .nil))) (.node (o42 P) (.node (o76 P) (.node (o142 P) (.node (o272 P) .nil .nil) .nil) (.node (o208 P) .nil .nil)) (.node (o108 P) (.node (o174 P) (.node (o307 P) .nil .nil) .nil) (.node (o240 P) .nil .nil)))) (.node (o18 P) (.node (o34 P) (.node (o68 P) (.node (o134 P) (.node (o264 P) .nil .nil) .nil) (.node (o200 P) (.node (o331 P) .nil .nil) .nil)) (.node (o100 P) (.node (o166 P) (.node (o299 P) .nil .nil) .nil) (.node (o232 P) .nil .nil))) (.node (o50 P) (.node (o84 P) (.node (o150 P) (.node (o280 P) .nil .nil) .nil) (.node (o216 P) .nil .nil)) (.node (o118 P) (.node (o182 P) (.node (o315 P) .nil .nil) .nil) (.node (o248 P) .nil .nil))))) (.node (o3 P) (.node (o14 P) (.node (o30 P) (.node (o64 P) (.node (o130 P) (.node (o260 P) .nil .nil) .nil) (.node (o194 P) (.node (o327 P) .nil .nil) .nil)) (.node (o96 P) (.node (o162 P) (.node (o295 P) .nil .nil) .nil) (.node (o228 P) .nil .nil))) (.node (o46 P) (.node (o80 P) (.node (o146 P) (.node (o276 P) .nil .nil) .nil) (.node (o212 P) .nil .nil)) (.node (o114 P) (.node (o178 P) (.node (o311 P) .nil .nil) .nil) (.node (o244 P) .nil .nil)))) (.node (o22 P) (.node (o38 P) (.node (o72 P) (.node (o138 P) (.node (o268 P) .nil .nil) .nil) (.node (o204 P) (.node (o335 P) .nil .nil) .nil)) (.node (o104 P) (.node (o170 P) (.node (o303 P) .nil .nil) .nil) (.node (o236 P) .nil .nil))) (.node (o56 P) (.node (o88 P) (.node (o154 P) (.node (o287 P) .nil .nil) .nil) (.node (o220 P) .nil .nil)) (.node (o122 P) (.node (o186 P) (.node (o319 P) .nil .nil) .nil) (.node (o252 P) .nil .nil))))))))
noncomputable def st5 (w : World) (os : OsState) : SharedT := ⟨tree5 w.params, 337, { }, ⟨[]⟩, { }, 634, os⟩
noncomputable def sts5 : List Stmt := (bodyT.drop 26).take 2
noncomputable def o338 (P : Params) : Obj := { cls := Value.type "dict", data := Data.dict #[{ hash := PyData.keyHash P (Str.ofString "__name__"), key := Value.str (Str.ofString "__name__") 165, val := Value.str (Str.ofString "law_og0006_01") 696 }, { hash := PyData.keyHash P (Str.ofString "__doc__"), key := Value.str (Str.ofString "__doc__") 166, val := Value.none }, { hash := PyData.keyHash P (Str.ofString "__package__"), key := Value.str (Str.ofString "__package__") 167, val := Value.none }, { hash := PyData.keyHash P (Str.ofString "__loader__"), key := Value.str (Str.ofString "__loader__") 168, val := Value.builtin "__main__.__loader__#opaque" }, { hash := PyData.keyHash P (Str.ofString "__spec__"), key := Value.str (Str.ofString "__spec__") 169, val := Value.none }, { hash := PyData.keyHash P (Str.ofString "__annotations__"), key := Value.str (Str.ofString "__annotations__") 170, val := Value.ref 6 }, { hash := PyData.keyHash P (Str.ofString "__builtins__"), key := Value.str (Str.ofString "__builtins__") 171, val := Value.ref 4 }, { hash := PyData.keyHash P (Str.ofString "__file__"), key := Value.str (Str.ofString "__file__") 173, val := Value.str (Str.ofString "/claim/cut.py") 172 }, { hash := PyData.keyHash P (Str.ofString "__cached__"), key := Value.str (Str.ofString "__cached__") 174, val := Value.none }, { hash := PyData.keyHash P (Str.ofString "_wall"), key := Value.str (Str.ofString "_wall") 193, val := Value.ref 21 }, { hash := PyData.keyHash P (Str.ofString "LazyError"), key := Value.str (Str.ofString "LazyError") 226, val := Value.ref 39 }, { hash := PyData.keyHash P (Str.ofString "FixityError"), key := Value.str (Str.ofString "FixityError") 242, val := Value.ref 52 }, { hash := PyData.keyHash P (Str.ofString "rows_of"), key := Value.str (Str.ofString "rows_of") 250, val := Value.ref 59 }, { hash := PyData.keyHash P (Str.ofString "Node"), key := Value.str (Str.ofString "Node") 286, val := Value.ref 83 }, { hash := PyData.keyHash P (Str.ofString "Op"), key := Value.str (Str.ofString "Op") 321, val := Value.ref 112 }, { hash := PyData.keyHash P (Str.ofString "COLON"), key := Value.str (Str.ofString "COLON") 325, val := Value.str (Str.ofString ":") 324 }, { hash := PyData.keyHash P (Str.ofString "Fixity"), key := Value.str (Str.ofString "Fixity") 356, val := Value.ref 131 }, { hash := PyData.keyHash P (Str.ofString "usual"), key := Value.str (Str.ofString "usual") 362, val := Value.ref 142 }, { hash := PyData.keyHash P (Str.ofString "of_minus"), key := Value.str (Str.ofString "of_minus") 368, val := Value.ref 149 }, { hash := PyData.keyHash P (Str.ofString "of_colon"), key := Value.str (Str.ofString "of_colon") 374, val := Value.ref 156 }, { hash := PyData.keyHash P (Str.ofString "fixity_in"), key := Value.str (Str.ofString "fixity_in") 383, val := Value.ref 163 }, { hash := PyData.keyHash P (Str.ofString "MINUS"), key := Value.str (Str.ofString "MINUS") 387, val := Value.str (Str.ofString "-") 386 }, { hash := PyData.keyHash P (Str.ofString "BINARY"), key := Value.str (Str.ofString "BINARY") 389, val := Value.int 0 388 }, { hash := PyData.keyHash P (Str.ofString "NEGATING"), key := Value.str (Str.ofString "NEGATING") 391, val := Value.int 1 390 }, { hash := PyData.keyHash P (Str.ofString "OPEN"), key := Value.str (Str.ofString "OPEN") 393, val := Value.int 2 392 }, { hash := PyData.keyHash P (Str.ofString "Waiting"), key := Value.str (Str.ofString "Waiting") 426, val := Value.ref 180 }, { hash := PyData.keyHash P (Str.ofString "check_beside"), key := Value.str (Str.ofString "check_beside") 435, val := Value.ref 191 }, { hash := PyData.keyHash P (Str.ofString "binds_first"), key := Value.str (Str.ofString "binds_first") 443, val := Value.ref 198 }, { hash := PyData.keyHash P (Str.ofString "Binder"), key := Value.str (Str.ofString "Binder") 552, val := Value.ref 271 }, { hash := PyData.keyHash P (Str.ofString "bound"), key := Value.str (Str.ofString "bound") 563, val := Value.ref 282 }, { hash := PyData.keyHash P (Str.ofString "PVar"), key := Value.str (Str.ofString "PVar") 598, val := Value.ref 307 }, { hash := PyData.keyHash P (Str.ofString "PLit"), key := Value.str (Str.ofString "PLit") 633, val := Value.ref 334 }, { hash := PyData.keyHash P (Str.ofString "PCon"), key := Value.str (Str.ofString "PCon") 668, val := Value.ref 361 }, { hash := PyData.keyHash P (Str.ofString "applied_pattern"), key := Value.str (Str.ofString "applied_pattern") 679, val := Value.ref 370 }, { hash := PyData.keyHash P (Str.ofString "negated_pattern"), key := Value.str (Str.ofString "negated_pattern") 687, val := Value.ref 377 }, { hash := PyData.keyHash P (Str.ofString "resolved_pattern"), key := Value.str (Str.ofString "resolved_pattern") 695, val := Value.ref 384 }, { hash := PyData.keyHash P (Str.ofString "_law_pool"), key := Value.str (Str.ofString "_law_pool") 707, val := Value.ref 391 }, { hash := PyData.keyHash P (Str.ofString "_law_take"), key := Value.str (Str.ofString "_law_take") 716, val := Value.ref 398 }, { hash := PyData.keyHash P (Str.ofString "_law_row"), key := Value.str (Str.ofString "_law_row") 725, val := Value.ref 405 }, { hash := PyData.keyHash P (Str.ofString "_law_levels"), key := Value.str (Str.ofString "_law_levels") 734, val := Value.ref 412 }, { hash := PyData.keyHash P (Str.ofString "_law_edges"), key := Value.str (Str.ofString "_law_edges") 743, val := Value.ref 419 }, { hash := PyData.keyHash P (Str.ofString "_law_beside"), key := Value.str (Str.ofString "_law_beside") 758, val := Value.ref 426 }, { hash := PyData.keyHash P (Str.ofString "_law_signed"), key := Value.str (Str.ofString "_law_signed") 767, val := Value.ref 433 }, { hash := PyData.keyHash P (Str.ofString "_law_trees"), key := Value.str (Str.ofString "_law_trees") 773, val := Value.ref 438 }, { hash := PyData.keyHash P (Str.ofString "_law_node"), key := Value.str (Str.ofString "_law_node") 782, val := Value.ref 445 }, { hash := PyData.keyHash P (Str.ofString "law"), key := Value.str (Str.ofString "law") 788, val := Value.ref 450 }] 46 }
noncomputable def o339 (P : Params) : Obj := { cls := Value.none, data := Data.fields #[Value.int 1 0, Value.int 0 0, Value.ref 20, Value.int 5 0, Value.int 0 0, Value.ref 27, Value.int 11 0, Value.int 0 0, Value.ref 48, Value.int 14 0, Value.int 0 0, Value.ref 58, Value.int 16 0, Value.int 0 0, Value.ref 65, Value.int 23 0, Value.int 0 0, Value.ref 93, Value.int 34 0, Value.int 0 0, Value.ref 120, Value.int 39 0, Value.int 0 0, Value.ref 141, Value.int 41 0, Value.int 0 0, Value.ref 148, Value.int 43 0, Value.int 0 0, Value.ref 155, Value.int 45 0, Value.int 0 0, Value.ref 162, Value.int 55 0, Value.int 0 0, Value.ref 169, Value.int 61 0, Value.int 0 0, Value.ref 190, Value.int 64 0, Value.int 0 0, Value.ref 197, Value.int 66 0, Value.int 0 0, Value.ref 204, Value.int 134 0, Value.int 0 0, Value.ref 281, Value.int 139 0, Value.int 0 0, Value.ref 288, Value.int 147 0, Value.int 0 0, Value.ref 315, Value.int 156 0, Value.int 0 0, Value.ref 342, Value.int 166 0, Value.int 0 0, Value.ref 369, Value.int 170 0, Value.int 0 0, Value.ref 376, Value.int 174 0, Value.int 0 0, Value.ref 383, Value.int 177 0, Value.int 0 0, Value.ref 390, Value.int 185 0, Value.int 0 0, Value.ref 397, Value.int 192 0, Value.int 0 0, Value.ref 404, Value.int 201 0, Value.int 0 0, Value.ref 411, Value.int 206 0, Value.int 0 0, Value.ref 418, Value.int 214 0, Value.int 0 0, Value.ref 425, Value.int 223 0, Value.int 0 0, Value.ref 432, Value.int 227 0, Value.int 0 0, Value.ref 437, Value.int 243 0, Value.int 0 0, Value.ref 444, Value.int 252 0, Value.int 0 0, Value.ref 449] }
noncomputable def o340 (P : Params) : Obj := { cls := Value.type "type", data := Data.cls { name := Str.ofString "Node", bases := [Value.type "object"], mro := [Value.ref 83, Value.type "object"], ns := 82, qualname := Str.ofString "Node", subclasses := [Value.ref 112, Value.ref 307, Value.ref 334, Value.ref 361] }, slots := #[none, none, some (Value.str (Str.ofString "Node") 251), some (Value.str (Str.ofString "Node") 259), some (Value.builtin "object.__new__"), some (Value.bool Bool.true)] }
noncomputable def o341 (P : Params) : Obj := { cls := Value.type "tuple", data := Data.seq #[Value.ref 83] }
noncomputable def o342 (P : Params) : Obj := { cls := Value.type "builtin_function_or_method", data := Data.fields #[Value.builtin "type.__prepare__", Value.type "type"] }
noncomputable def o343 (P : Params) : Obj := { cls := Value.type "dict", data := Data.dict #[{ hash := PyData.keyHash P (Str.ofString "__module__"), key := Value.str (Str.ofString "__module__") 641, val := Value.str (Str.ofString "lazycore.pattern_nodes") 564 }, { hash := PyData.keyHash P (Str.ofString "__qualname__"), key := Value.str (Str.ofString "__qualname__") 643, val := Value.str (Str.ofString "PCon") 642 }, { hash := PyData.keyHash P (Str.ofString "__firstlineno__"), key := Value.str (Str.ofString "__firstlineno__") 645, val := Value.int 156 644 }, { hash := PyData.keyHash P (Str.ofString "__init__"), key := Value.str (Str.ofString "__init__") 655, val := Value.ref 351 }, { hash := PyData.keyHash P (Str.ofString "row"), key := Value.str (Str.ofString "row") 662, val := Value.ref 358 }, { hash := PyData.keyHash P (Str.ofString "__static_attributes__"), key := Value.str (Str.ofString "__static_attributes__") 665, val := Value.ref 359 }] 6 }
noncomputable def o344 (P : Params) : Obj := { cls := Value.type "tuple", data := Data.seq #[] }
noncomputable def o345 (P : Params) : Obj := { cls := Value.none, data := Data.fields #[Value.int 158 0, Value.int 4 0, Value.ref 350, Value.int 163 0, Value.int 4 0, Value.ref 357] }
noncomputable def o346 (P : Params) : Obj := { cls := Value.type "code", data := Data.fields #[Value.str (Str.ofString "PCon") 636, Value.str (Str.ofString "PCon") 637, Value.str (Str.ofString "/claim/cut.py") 638, Value.int 156 0, Value.int 0 0, Value.int 0 0, Value.int 0 0, Value.int 0 0, Value.ref 340, Value.bool Bool.false, Value.int 181 0, Value.ref 341, Value.none, Value.none, Value.none, Value.none, Value.int 639 0, Value.int 156 0, Value.str (Str.ofString "/claim/cut.py") 640] }
noncomputable def o347 (P : Params) : Obj := { cls := Value.type "frame", slots := #[some (Value.ref 342), some (Value.ref 3), some (Value.ref 339), none, some (Value.str (Str.ofString "lazycore.pattern_nodes") 564), none, some (Value.ref 0)] }
noncomputable def o348 (P : Params) : Obj := { cls := Value.type "tuple", data := Data.seq #[Value.none] }
noncomputable def o349 (P : Params) : Obj := { cls := Value.type "tuple", data := Data.seq #[] }
noncomputable def o350 (P : Params) : Obj := { cls := Value.none, data := Data.fields #[] }
noncomputable def o351 (P : Params) : Obj := { cls := Value.type "tuple", data := Data.seq #[Value.str (Str.ofString "self") 649, Value.str (Str.ofString "name") 650, Value.str (Str.ofString "args") 651, Value.str (Str.ofString "place") 652] }
noncomputable def o352 (P : Params) : Obj := { cls := Value.type "tuple", data := Data.seq #[] }
noncomputable def o353r (P : Params) : Obj := { cls := Value.none, data := Data.func { name := Str.ofString "__init__", qualname := Str.ofString "PCon.__init__", params := fA 29, body := FuncBody.stmts (fB 29), scope := fS 29, globals := 0, closure := [], defaults := Value.none, kwdefaults := Value.none } }
noncomputable def o353 : Params → Obj := by
  refine' (?f : (K : Params → Obj) → (∀ P, K P = o353r P) → (Params → Obj)) _ ?h
  case f => exact fun K _ => K
  case h =>
    intro P
    conv =>
      rhs
      delta o353r
      conv => pattern (occs := *) fB _; all_goals whnf
      conv => pattern (occs := *) fA _; all_goals whnf
      conv => pattern (occs := *) fS _; all_goals whnf
noncomputable def o354 (P : Params) : Obj := { cls := Value.type "code", data := Data.fields #[Value.str (Str.ofString "__init__") 646, Value.str (Str.ofString "PCon.__init__") 647, Value.str (Str.ofString "/claim/cut.py") 648, Value.int 158 0, Value.int 4 0, Value.int 0 0, Value.int 0 0, Value.int 3 0, Value.ref 345, Value.bool Bool.true, Value.int 181 0, Value.ref 346, Value.none, Value.ref 347, Value.ref 348, Value.ref 349, Value.int 653 0, Value.int 158 0, Value.str (Str.ofString "/claim/cut.py") 654] }
noncomputable def o355r (P : Params) : Obj := { cls := Value.type "function", data := Data.func { name := Str.ofString "__init__", qualname := Str.ofString "PCon.__init__", params := fA 29, body := FuncBody.stmts (fB 29), scope := fS 29, globals := 3, closure := [], defaults := Value.ref 344, kwdefaults := Value.none, pyModule := Value.str (Str.ofString "lazycore.pattern_nodes") 564, code := Value.ref 350 } }
noncomputable def o355 : Params → Obj := by
  refine' (?f : (K : Params → Obj) → (∀ P, K P = o355r P) → (Params → Obj)) _ ?h
  case f => exact fun K _ => K
  case h =>
    intro P
    conv =>
      rhs
      delta o355r
      conv => pattern (occs := *) fB _; all_goals whnf
      conv => pattern (occs := *) fA _; all_goals whnf
      conv => pattern (occs := *) fS _; all_goals whnf
noncomputable def o356 (P : Params) : Obj := { cls := Value.type "tuple", data := Data.seq #[] }
noncomputable def o357 (P : Params) : Obj := { cls := Value.none, data := Data.fields #[] }
noncomputable def o358 (P : Params) : Obj := { cls := Value.type "tuple", data := Data.seq #[Value.str (Str.ofString "self") 659] }
noncomputable def o359 (P : Params) : Obj := { cls := Value.type "tuple", data := Data.seq #[] }
noncomputable def o360r (P : Params) : Obj := { cls := Value.none, data := Data.func { name := Str.ofString "row", qualname := Str.ofString "PCon.row", params := fA 30, body := FuncBody.stmts (fB 30), scope := fS 30, globals := 0, closure := [], defaults := Value.none, kwdefaults := Value.none } }
noncomputable def o360 : Params → Obj := by
  refine' (?f : (K : Params → Obj) → (∀ P, K P = o360r P) → (Params → Obj)) _ ?h
  case f => exact fun K _ => K
  case h =>
    intro P
    conv =>
      rhs
      delta o360r
      conv => pattern (occs := *) fB _; all_goals whnf
      conv => pattern (occs := *) fA _; all_goals whnf
      conv => pattern (occs := *) fS _; all_goals whnf
noncomputable def o361 (P : Params) : Obj := { cls := Value.type "code", data := Data.fields #[Value.str (Str.ofString "row") 656, Value.str (Str.ofString "PCon.row") 657, Value.str (Str.ofString "/claim/cut.py") 658, Value.int 163 0, Value.int 1 0, Value.int 0 0, Value.int 0 0, Value.int 3 0, Value.ref 352, Value.bool Bool.true, Value.int 181 0, Value.ref 353, Value.none, Value.ref 354, Value.ref 355, Value.ref 356, Value.int 660 0, Value.int 163 0, Value.str (Str.ofString "/claim/cut.py") 661] }
noncomputable def o362r (P : Params) : Obj := { cls := Value.type "function", data := Data.func { name := Str.ofString "row", qualname := Str.ofString "PCon.row", params := fA 30, body := FuncBody.stmts (fB 30), scope := fS 30, globals := 3, closure := [], defaults := Value.none, kwdefaults := Value.none, pyModule := Value.str (Str.ofString "lazycore.pattern_nodes") 564, code := Value.ref 357 } }
noncomputable def o362 : Params → Obj := by
  refine' (?f : (K : Params → Obj) → (∀ P, K P = o362r P) → (Params → Obj)) _ ?h
  case f => exact fun K _ => K
  case h =>
    intro P
    conv =>
      rhs
      delta o362r
      conv => pattern (occs := *) fB _; all_goals whnf
      conv => pattern (occs := *) fA _; all_goals whnf
      conv => pattern (occs := *) fS _; all_goals whnf
noncomputable def o363 (P : Params) : Obj := { cls := Value.type "tuple", data := Data.seq #[Value.str (Str.ofString "args") 663, Value.str (Str.ofString "name") 664] }
noncomputable def o364 (P : Params) : Obj := { cls := Value.type "dict", data := Data.dict #[{ hash := PyData.keyHash P (Str.ofString "__module__"), key := Value.str (Str.ofString "__module__") 641, val := Value.str (Str.ofString "lazycore.pattern_nodes") 564 }, { hash := PyData.keyHash P (Str.ofString "__firstlineno__"), key := Value.str (Str.ofString "__firstlineno__") 645, val := Value.int 156 644 }, { hash := PyData.keyHash P (Str.ofString "__init__"), key := Value.str (Str.ofString "__init__") 655, val := Value.ref 351 }, { hash := PyData.keyHash P (Str.ofString "row"), key := Value.str (Str.ofString "row") 662, val := Value.ref 358 }, { hash := PyData.keyHash P (Str.ofString "__static_attributes__"), key := Value.str (Str.ofString "__static_attributes__") 665, val := Value.ref 359 }, { hash := PyData.keyHash P (Str.ofString "__doc__"), key := Value.str (Str.ofString "__doc__") 666, val := Value.none }] 2 }
noncomputable def o365 (P : Params) : Obj := { cls := Value.type "type", data := Data.cls { name := Str.ofString "PCon", bases := [Value.ref 83], mro := [Value.ref 361, Value.ref 83, Value.type "object"], ns := 360, qualname := Str.ofString "PCon" }, slots := #[some (Value.ref 337), none, some (Value.str (Str.ofString "PCon") 634), some (Value.str (Str.ofString "PCon") 642), some (Value.builtin "object.__new__"), some (Value.bool Bool.true)] }
noncomputable def o366 (P : Params) : Obj := { cls := Value.type "super", data := Data.fields #[Value.ref 361, Value.ref 361, Value.ref 361] }
noncomputable def o367 (P : Params) : Obj := { cls := Value.type "builtin_function_or_method", data := Data.fields #[Value.builtin "object.__init_subclass__", Value.ref 361] }
noncomputable def o368 (P : Params) : Obj := { cls := Value.type "tuple", data := Data.seq #[] }
noncomputable def o369 (P : Params) : Obj := { cls := Value.none, data := Data.fields #[] }
noncomputable def o370 (P : Params) : Obj := { cls := Value.type "tuple", data := Data.seq #[Value.str (Str.ofString "op") 674, Value.str (Str.ofString "left") 675, Value.str (Str.ofString "right") 676] }
noncomputable def o371 (P : Params) : Obj := { cls := Value.type "tuple", data := Data.seq #[] }
noncomputable def o372r (P : Params) : Obj := { cls := Value.none, data := Data.func { name := Str.ofString "applied_pattern", qualname := Str.ofString "applied_pattern", params := fA 31, body := FuncBody.stmts (fB 31), scope := fS 31, globals := 0, closure := [], defaults := Value.none, kwdefaults := Value.none } }
noncomputable def o372 : Params → Obj := by
  refine' (?f : (K : Params → Obj) → (∀ P, K P = o372r P) → (Params → Obj)) _ ?h
  case f => exact fun K _ => K
  case h =>
    intro P
    conv =>
      rhs
      delta o372r
      conv => pattern (occs := *) fB _; all_goals whnf
      conv => pattern (occs := *) fA _; all_goals whnf
      conv => pattern (occs := *) fS _; all_goals whnf
noncomputable def o373 (P : Params) : Obj := { cls := Value.type "code", data := Data.fields #[Value.str (Str.ofString "applied_pattern") 671, Value.str (Str.ofString "applied_pattern") 672, Value.str (Str.ofString "/claim/cut.py") 673, Value.int 166 0, Value.int 3 0, Value.int 0 0, Value.int 0 0, Value.int 3 0, Value.ref 364, Value.bool Bool.true, Value.int 181 0, Value.ref 365, Value.none, Value.ref 366, Value.ref 367, Value.ref 368, Value.int 677 0, Value.int 166 0, Value.str (Str.ofString "/claim/cut.py") 678] }
noncomputable def o374r (P : Params) : Obj := { cls := Value.type "function", data := Data.func { name := Str.ofString "applied_pattern", qualname := Str.ofString "applied_pattern", params := fA 31, body := FuncBody.stmts (fB 31), scope := fS 31, globals := 3, closure := [], defaults := Value.none, kwdefaults := Value.none, pyModule := Value.str (Str.ofString "lazycore.fixity") 669, code := Value.ref 369 } }
noncomputable def o374 : Params → Obj := by
  refine' (?f : (K : Params → Obj) → (∀ P, K P = o374r P) → (Params → Obj)) _ ?h
  case f => exact fun K _ => K
  case h =>
    intro P
    conv =>
      rhs
      delta o374r
      conv => pattern (occs := *) fB _; all_goals whnf
      conv => pattern (occs := *) fA _; all_goals whnf
      conv => pattern (occs := *) fS _; all_goals whnf
noncomputable def o375 (P : Params) : Obj := { cls := Value.type "tuple", data := Data.seq #[] }
noncomputable def o376 (P : Params) : Obj := { cls := Value.none, data := Data.fields #[] }
noncomputable def o377 (P : Params) : Obj := { cls := Value.type "tuple", data := Data.seq #[Value.str (Str.ofString "op") 683, Value.str (Str.ofString "operand") 684] }
noncomputable def o378 (P : Params) : Obj := { cls := Value.type "tuple", data := Data.seq #[] }
noncomputable def o379r (P : Params) : Obj := { cls := Value.none, data := Data.func { name := Str.ofString "negated_pattern", qualname := Str.ofString "negated_pattern", params := fA 32, body := FuncBody.stmts (fB 32), scope := fS 32, globals := 0, closure := [], defaults := Value.none, kwdefaults := Value.none } }
noncomputable def o379 : Params → Obj := by
  refine' (?f : (K : Params → Obj) → (∀ P, K P = o379r P) → (Params → Obj)) _ ?h
  case f => exact fun K _ => K
  case h =>
    intro P
    conv =>
      rhs
      delta o379r
      conv => pattern (occs := *) fB _; all_goals whnf
      conv => pattern (occs := *) fA _; all_goals whnf
      conv => pattern (occs := *) fS _; all_goals whnf
noncomputable def o380 (P : Params) : Obj := { cls := Value.type "code", data := Data.fields #[Value.str (Str.ofString "negated_pattern") 680, Value.str (Str.ofString "negated_pattern") 681, Value.str (Str.ofString "/claim/cut.py") 682, Value.int 170 0, Value.int 2 0, Value.int 0 0, Value.int 0 0, Value.int 3 0, Value.ref 371, Value.bool Bool.true, Value.int 181 0, Value.ref 372, Value.none, Value.ref 373, Value.ref 374, Value.ref 375, Value.int 685 0, Value.int 170 0, Value.str (Str.ofString "/claim/cut.py") 686] }
noncomputable def o381r (P : Params) : Obj := { cls := Value.type "function", data := Data.func { name := Str.ofString "negated_pattern", qualname := Str.ofString "negated_pattern", params := fA 32, body := FuncBody.stmts (fB 32), scope := fS 32, globals := 3, closure := [], defaults := Value.none, kwdefaults := Value.none, pyModule := Value.str (Str.ofString "lazycore.fixity") 669, code := Value.ref 376 } }
noncomputable def o381 : Params → Obj := by
  refine' (?f : (K : Params → Obj) → (∀ P, K P = o381r P) → (Params → Obj)) _ ?h
  case f => exact fun K _ => K
  case h =>
    intro P
    conv =>
      rhs
      delta o381r
      conv => pattern (occs := *) fB _; all_goals whnf
      conv => pattern (occs := *) fA _; all_goals whnf
      conv => pattern (occs := *) fS _; all_goals whnf
noncomputable def o382 (P : Params) : Obj := { cls := Value.type "tuple", data := Data.seq #[] }
noncomputable def o383 (P : Params) : Obj := { cls := Value.none, data := Data.fields #[] }
noncomputable def o384 (P : Params) : Obj := { cls := Value.type "tuple", data := Data.seq #[Value.str (Str.ofString "items") 691, Value.str (Str.ofString "table") 692] }
noncomputable def o385 (P : Params) : Obj := { cls := Value.type "tuple", data := Data.seq #[] }
noncomputable def o386r (P : Params) : Obj := { cls := Value.none, data := Data.func { name := Str.ofString "resolved_pattern", qualname := Str.ofString "resolved_pattern", params := fA 33, body := FuncBody.stmts (fB 33), scope := fS 33, globals := 0, closure := [], defaults := Value.none, kwdefaults := Value.none } }
noncomputable def o386 : Params → Obj := by
  refine' (?f : (K : Params → Obj) → (∀ P, K P = o386r P) → (Params → Obj)) _ ?h
  case f => exact fun K _ => K
  case h =>
    intro P
    conv =>
      rhs
      delta o386r
      conv => pattern (occs := *) fB _; all_goals whnf
      conv => pattern (occs := *) fA _; all_goals whnf
      conv => pattern (occs := *) fS _; all_goals whnf
noncomputable def o387 (P : Params) : Obj := { cls := Value.type "code", data := Data.fields #[Value.str (Str.ofString "resolved_pattern") 688, Value.str (Str.ofString "resolved_pattern") 689, Value.str (Str.ofString "/claim/cut.py") 690, Value.int 174 0, Value.int 2 0, Value.int 0 0, Value.int 0 0, Value.int 3 0, Value.ref 378, Value.bool Bool.true, Value.int 181 0, Value.ref 379, Value.none, Value.ref 380, Value.ref 381, Value.ref 382, Value.int 693 0, Value.int 174 0, Value.str (Str.ofString "/claim/cut.py") 694] }
noncomputable def o388r (P : Params) : Obj := { cls := Value.type "function", data := Data.func { name := Str.ofString "resolved_pattern", qualname := Str.ofString "resolved_pattern", params := fA 33, body := FuncBody.stmts (fB 33), scope := fS 33, globals := 3, closure := [], defaults := Value.none, kwdefaults := Value.none, pyModule := Value.str (Str.ofString "lazycore.fixity") 669, code := Value.ref 383 } }
noncomputable def o388 : Params → Obj := by
  refine' (?f : (K : Params → Obj) → (∀ P, K P = o388r P) → (Params → Obj)) _ ?h
  case f => exact fun K _ => K
  case h =>
    intro P
    conv =>
      rhs
      delta o388r
      conv => pattern (occs := *) fB _; all_goals whnf
      conv => pattern (occs := *) fA _; all_goals whnf
      conv => pattern (occs := *) fS _; all_goals whnf
noncomputable def o389 (P : Params) : Obj := { cls := Value.type "tuple", data := Data.seq #[] }
noncomputable def o390 (P : Params) : Obj := { cls := Value.none, data := Data.fields #[] }
noncomputable def o391 (P : Params) : Obj := { cls := Value.type "tuple", data := Data.seq #[Value.str (Str.ofString "script") 701, Value.str (Str.ofString "big") 702, Value.str (Str.ofString "mixed") 703, Value.str (Str.ofString "k") 704] }
noncomputable def o392 (P : Params) : Obj := { cls := Value.type "tuple", data := Data.seq #[] }
noncomputable def o393r (P : Params) : Obj := { cls := Value.none, data := Data.func { name := Str.ofString "_law_pool", qualname := Str.ofString "_law_pool", params := fA 34, body := FuncBody.stmts (fB 34), scope := fS 34, globals := 0, closure := [], defaults := Value.none, kwdefaults := Value.none } }
noncomputable def o393 : Params → Obj := by
  refine' (?f : (K : Params → Obj) → (∀ P, K P = o393r P) → (Params → Obj)) _ ?h
  case f => exact fun K _ => K
  case h =>
    intro P
    conv =>
      rhs
      delta o393r
      conv => pattern (occs := *) fB _; all_goals whnf
      conv => pattern (occs := *) fA _; all_goals whnf
      conv => pattern (occs := *) fS _; all_goals whnf
noncomputable def o394 (P : Params) : Obj := { cls := Value.type "code", data := Data.fields #[Value.str (Str.ofString "_law_pool") 698, Value.str (Str.ofString "_law_pool") 699, Value.str (Str.ofString "/claim/cut.py") 700, Value.int 177 0, Value.int 1 0, Value.int 0 0, Value.int 0 0, Value.int 3 0, Value.ref 385, Value.bool Bool.true, Value.int 181 0, Value.ref 386, Value.none, Value.ref 387, Value.ref 388, Value.ref 389, Value.int 705 0, Value.int 177 0, Value.str (Str.ofString "/claim/cut.py") 706] }
noncomputable def o395r (P : Params) : Obj := { cls := Value.type "function", data := Data.func { name := Str.ofString "_law_pool", qualname := Str.ofString "_law_pool", params := fA 34, body := FuncBody.stmts (fB 34), scope := fS 34, globals := 3, closure := [], defaults := Value.none, kwdefaults := Value.none, pyModule := Value.str (Str.ofString "law_og0006_01") 696, code := Value.ref 390 } }
noncomputable def o395 : Params → Obj := by
  refine' (?f : (K : Params → Obj) → (∀ P, K P = o395r P) → (Params → Obj)) _ ?h
  case f => exact fun K _ => K
  case h =>
    intro P
    conv =>
      rhs
      delta o395r
      conv => pattern (occs := *) fB _; all_goals whnf
      conv => pattern (occs := *) fA _; all_goals whnf
      conv => pattern (occs := *) fS _; all_goals whnf
noncomputable def o396 (P : Params) : Obj := { cls := Value.type "tuple", data := Data.seq #[] }
noncomputable def o397 (P : Params) : Obj := { cls := Value.none, data := Data.fields #[] }
noncomputable def o398 (P : Params) : Obj := { cls := Value.type "tuple", data := Data.seq #[Value.str (Str.ofString "source") 711, Value.str (Str.ofString "top") 712, Value.str (Str.ofString "digit") 713] }
noncomputable def o399 (P : Params) : Obj := { cls := Value.type "tuple", data := Data.seq #[] }
noncomputable def o400r (P : Params) : Obj := { cls := Value.none, data := Data.func { name := Str.ofString "_law_take", qualname := Str.ofString "_law_take", params := fA 35, body := FuncBody.stmts (fB 35), scope := fS 35, globals := 0, closure := [], defaults := Value.none, kwdefaults := Value.none } }
noncomputable def o400 : Params → Obj := by
  refine' (?f : (K : Params → Obj) → (∀ P, K P = o400r P) → (Params → Obj)) _ ?h
  case f => exact fun K _ => K
  case h =>
    intro P
    conv =>
      rhs
      delta o400r
      conv => pattern (occs := *) fB _; all_goals whnf
      conv => pattern (occs := *) fA _; all_goals whnf
      conv => pattern (occs := *) fS _; all_goals whnf
noncomputable def o401 (P : Params) : Obj := { cls := Value.type "code", data := Data.fields #[Value.str (Str.ofString "_law_take") 708, Value.str (Str.ofString "_law_take") 709, Value.str (Str.ofString "/claim/cut.py") 710, Value.int 185 0, Value.int 2 0, Value.int 0 0, Value.int 0 0, Value.int 3 0, Value.ref 392, Value.bool Bool.true, Value.int 181 0, Value.ref 393, Value.none, Value.ref 394, Value.ref 395, Value.ref 396, Value.int 714 0, Value.int 185 0, Value.str (Str.ofString "/claim/cut.py") 715] }
noncomputable def o402r (P : Params) : Obj := { cls := Value.type "function", data := Data.func { name := Str.ofString "_law_take", qualname := Str.ofString "_law_take", params := fA 35, body := FuncBody.stmts (fB 35), scope := fS 35, globals := 3, closure := [], defaults := Value.none, kwdefaults := Value.none, pyModule := Value.str (Str.ofString "law_og0006_01") 696, code := Value.ref 397 } }
noncomputable def o402 : Params → Obj := by
  refine' (?f : (K : Params → Obj) → (∀ P, K P = o402r P) → (Params → Obj)) _ ?h
  case f => exact fun K _ => K
  case h =>
    intro P
    conv =>
      rhs
      delta o402r
      conv => pattern (occs := *) fB _; all_goals whnf
      conv => pattern (occs := *) fA _; all_goals whnf
      conv => pattern (occs := *) fS _; all_goals whnf
noncomputable def o403 (P : Params) : Obj := { cls := Value.type "tuple", data := Data.seq #[] }
noncomputable def o404 (P : Params) : Obj := { cls := Value.none, data := Data.fields #[] }
noncomputable def o405 (P : Params) : Obj := { cls := Value.type "tuple", data := Data.seq #[Value.str (Str.ofString "source") 720, Value.str (Str.ofString "row") 721, Value.str (Str.ofString "turn") 722] }
noncomputable def o406 (P : Params) : Obj := { cls := Value.type "tuple", data := Data.seq #[] }
noncomputable def o407r (P : Params) : Obj := { cls := Value.none, data := Data.func { name := Str.ofString "_law_row", qualname := Str.ofString "_law_row", params := fA 36, body := FuncBody.stmts (fB 36), scope := fS 36, globals := 0, closure := [], defaults := Value.none, kwdefaults := Value.none } }
noncomputable def o407 : Params → Obj := by
  refine' (?f : (K : Params → Obj) → (∀ P, K P = o407r P) → (Params → Obj)) _ ?h
  case f => exact fun K _ => K
  case h =>
    intro P
    conv =>
      rhs
      delta o407r
      conv => pattern (occs := *) fB _; all_goals whnf
      conv => pattern (occs := *) fA _; all_goals whnf
      conv => pattern (occs := *) fS _; all_goals whnf
noncomputable def o408 (P : Params) : Obj := { cls := Value.type "code", data := Data.fields #[Value.str (Str.ofString "_law_row") 717, Value.str (Str.ofString "_law_row") 718, Value.str (Str.ofString "/claim/cut.py") 719, Value.int 192 0, Value.int 1 0, Value.int 0 0, Value.int 0 0, Value.int 3 0, Value.ref 399, Value.bool Bool.true, Value.int 181 0, Value.ref 400, Value.none, Value.ref 401, Value.ref 402, Value.ref 403, Value.int 723 0, Value.int 192 0, Value.str (Str.ofString "/claim/cut.py") 724] }
noncomputable def o409r (P : Params) : Obj := { cls := Value.type "function", data := Data.func { name := Str.ofString "_law_row", qualname := Str.ofString "_law_row", params := fA 36, body := FuncBody.stmts (fB 36), scope := fS 36, globals := 3, closure := [], defaults := Value.none, kwdefaults := Value.none, pyModule := Value.str (Str.ofString "law_og0006_01") 696, code := Value.ref 404 } }
noncomputable def o409 : Params → Obj := by
  refine' (?f : (K : Params → Obj) → (∀ P, K P = o409r P) → (Params → Obj)) _ ?h
  case f => exact fun K _ => K
  case h =>
    intro P
    conv =>
      rhs
      delta o409r
      conv => pattern (occs := *) fB _; all_goals whnf
      conv => pattern (occs := *) fA _; all_goals whnf
      conv => pattern (occs := *) fS _; all_goals whnf
noncomputable def o410 (P : Params) : Obj := { cls := Value.type "tuple", data := Data.seq #[] }
noncomputable def o411 (P : Params) : Obj := { cls := Value.none, data := Data.fields #[] }
noncomputable def o412 (P : Params) : Obj := { cls := Value.type "tuple", data := Data.seq #[Value.str (Str.ofString "source") 729, Value.str (Str.ofString "found") 730, Value.str (Str.ofString "name") 731] }
noncomputable def o413 (P : Params) : Obj := { cls := Value.type "tuple", data := Data.seq #[] }
noncomputable def o414r (P : Params) : Obj := { cls := Value.none, data := Data.func { name := Str.ofString "_law_levels", qualname := Str.ofString "_law_levels", params := fA 37, body := FuncBody.stmts (fB 37), scope := fS 37, globals := 0, closure := [], defaults := Value.none, kwdefaults := Value.none } }
noncomputable def o414 : Params → Obj := by
  refine' (?f : (K : Params → Obj) → (∀ P, K P = o414r P) → (Params → Obj)) _ ?h
  case f => exact fun K _ => K
  case h =>
    intro P
    conv =>
      rhs
      delta o414r
      conv => pattern (occs := *) fB _; all_goals whnf
      conv => pattern (occs := *) fA _; all_goals whnf
      conv => pattern (occs := *) fS _; all_goals whnf
noncomputable def o415 (P : Params) : Obj := { cls := Value.type "code", data := Data.fields #[Value.str (Str.ofString "_law_levels") 726, Value.str (Str.ofString "_law_levels") 727, Value.str (Str.ofString "/claim/cut.py") 728, Value.int 201 0, Value.int 1 0, Value.int 0 0, Value.int 0 0, Value.int 3 0, Value.ref 406, Value.bool Bool.true, Value.int 181 0, Value.ref 407, Value.none, Value.ref 408, Value.ref 409, Value.ref 410, Value.int 732 0, Value.int 201 0, Value.str (Str.ofString "/claim/cut.py") 733] }
noncomputable def o416r (P : Params) : Obj := { cls := Value.type "function", data := Data.func { name := Str.ofString "_law_levels", qualname := Str.ofString "_law_levels", params := fA 37, body := FuncBody.stmts (fB 37), scope := fS 37, globals := 3, closure := [], defaults := Value.none, kwdefaults := Value.none, pyModule := Value.str (Str.ofString "law_og0006_01") 696, code := Value.ref 411 } }
noncomputable def o416 : Params → Obj := by
  refine' (?f : (K : Params → Obj) → (∀ P, K P = o416r P) → (Params → Obj)) _ ?h
  case f => exact fun K _ => K
  case h =>
    intro P
    conv =>
      rhs
      delta o416r
      conv => pattern (occs := *) fB _; all_goals whnf
      conv => pattern (occs := *) fA _; all_goals whnf
      conv => pattern (occs := *) fS _; all_goals whnf
noncomputable def o417 (P : Params) : Obj := { cls := Value.type "tuple", data := Data.seq #[] }
noncomputable def o418 (P : Params) : Obj := { cls := Value.none, data := Data.fields #[] }
noncomputable def o419 (P : Params) : Obj := { cls := Value.type "tuple", data := Data.seq #[Value.str (Str.ofString "tree") 738, Value.str (Str.ofString "side") 739, Value.str (Str.ofString "found") 740] }
noncomputable def o420 (P : Params) : Obj := { cls := Value.type "tuple", data := Data.seq #[] }
noncomputable def o421r (P : Params) : Obj := { cls := Value.none, data := Data.func { name := Str.ofString "_law_edges", qualname := Str.ofString "_law_edges", params := fA 38, body := FuncBody.stmts (fB 38), scope := fS 38, globals := 0, closure := [], defaults := Value.none, kwdefaults := Value.none } }
noncomputable def o421 : Params → Obj := by
  refine' (?f : (K : Params → Obj) → (∀ P, K P = o421r P) → (Params → Obj)) _ ?h
  case f => exact fun K _ => K
  case h =>
    intro P
    conv =>
      rhs
      delta o421r
      conv => pattern (occs := *) fB _; all_goals whnf
      conv => pattern (occs := *) fA _; all_goals whnf
      conv => pattern (occs := *) fS _; all_goals whnf
noncomputable def o422 (P : Params) : Obj := { cls := Value.type "code", data := Data.fields #[Value.str (Str.ofString "_law_edges") 735, Value.str (Str.ofString "_law_edges") 736, Value.str (Str.ofString "/claim/cut.py") 737, Value.int 206 0, Value.int 2 0, Value.int 0 0, Value.int 0 0, Value.int 3 0, Value.ref 413, Value.bool Bool.true, Value.int 181 0, Value.ref 414, Value.none, Value.ref 415, Value.ref 416, Value.ref 417, Value.int 741 0, Value.int 206 0, Value.str (Str.ofString "/claim/cut.py") 742] }
noncomputable def o423r (P : Params) : Obj := { cls := Value.type "function", data := Data.func { name := Str.ofString "_law_edges", qualname := Str.ofString "_law_edges", params := fA 38, body := FuncBody.stmts (fB 38), scope := fS 38, globals := 3, closure := [], defaults := Value.none, kwdefaults := Value.none, pyModule := Value.str (Str.ofString "law_og0006_01") 696, code := Value.ref 418 } }
noncomputable def o423 : Params → Obj := by
  refine' (?f : (K : Params → Obj) → (∀ P, K P = o423r P) → (Params → Obj)) _ ?h
  case f => exact fun K _ => K
  case h =>
    intro P
    conv =>
      rhs
      delta o423r
      conv => pattern (occs := *) fB _; all_goals whnf
      conv => pattern (occs := *) fA _; all_goals whnf
      conv => pattern (occs := *) fS _; all_goals whnf
noncomputable def o424 (P : Params) : Obj := { cls := Value.type "tuple", data := Data.seq #[] }
noncomputable def o425 (P : Params) : Obj := { cls := Value.none, data := Data.fields #[] }
noncomputable def o426 (P : Params) : Obj := { cls := Value.type "tuple", data := Data.seq #[Value.str (Str.ofString "levels") 747, Value.str (Str.ofString "name") 748, Value.str (Str.ofString "tree") 749, Value.str (Str.ofString "side") 750, Value.str (Str.ofString "way") 751, Value.str (Str.ofString "level") 752, Value.str (Str.ofString "other") 753, Value.str (Str.ofString "other_way") 754, Value.str (Str.ofString "other_level") 755] }
noncomputable def o427 (P : Params) : Obj := { cls := Value.type "tuple", data := Data.seq #[] }
noncomputable def o428r (P : Params) : Obj := { cls := Value.none, data := Data.func { name := Str.ofString "_law_beside", qualname := Str.ofString "_law_beside", params := fA 39, body := FuncBody.stmts (fB 39), scope := fS 39, globals := 0, closure := [], defaults := Value.none, kwdefaults := Value.none } }
noncomputable def o428 : Params → Obj := by
  refine' (?f : (K : Params → Obj) → (∀ P, K P = o428r P) → (Params → Obj)) _ ?h
  case f => exact fun K _ => K
  case h =>
    intro P
    conv =>
      rhs
      delta o428r
      conv => pattern (occs := *) fB _; all_goals whnf
      conv => pattern (occs := *) fA _; all_goals whnf
      conv => pattern (occs := *) fS _; all_goals whnf
noncomputable def o429 (P : Params) : Obj := { cls := Value.type "code", data := Data.fields #[Value.str (Str.ofString "_law_beside") 744, Value.str (Str.ofString "_law_beside") 745, Value.str (Str.ofString "/claim/cut.py") 746, Value.int 214 0, Value.int 4 0, Value.int 0 0, Value.int 0 0, Value.int 3 0, Value.ref 420, Value.bool Bool.true, Value.int 181 0, Value.ref 421, Value.none, Value.ref 422, Value.ref 423, Value.ref 424, Value.int 756 0, Value.int 214 0, Value.str (Str.ofString "/claim/cut.py") 757] }
noncomputable def o430r (P : Params) : Obj := { cls := Value.type "function", data := Data.func { name := Str.ofString "_law_beside", qualname := Str.ofString "_law_beside", params := fA 39, body := FuncBody.stmts (fB 39), scope := fS 39, globals := 3, closure := [], defaults := Value.none, kwdefaults := Value.none, pyModule := Value.str (Str.ofString "law_og0006_01") 696, code := Value.ref 425 } }
noncomputable def o430 : Params → Obj := by
  refine' (?f : (K : Params → Obj) → (∀ P, K P = o430r P) → (Params → Obj)) _ ?h
  case f => exact fun K _ => K
  case h =>
    intro P
    conv =>
      rhs
      delta o430r
      conv => pattern (occs := *) fB _; all_goals whnf
      conv => pattern (occs := *) fA _; all_goals whnf
      conv => pattern (occs := *) fS _; all_goals whnf
noncomputable def o431 (P : Params) : Obj := { cls := Value.type "tuple", data := Data.seq #[] }
noncomputable def o432 (P : Params) : Obj := { cls := Value.none, data := Data.fields #[] }
noncomputable def o433 (P : Params) : Obj := { cls := Value.type "tuple", data := Data.seq #[Value.str (Str.ofString "levels") 762, Value.str (Str.ofString "name") 763, Value.str (Str.ofString "right") 764] }
noncomputable def o434 (P : Params) : Obj := { cls := Value.type "tuple", data := Data.seq #[] }
noncomputable def o435r (P : Params) : Obj := { cls := Value.none, data := Data.func { name := Str.ofString "_law_signed", qualname := Str.ofString "_law_signed", params := fA 40, body := FuncBody.stmts (fB 40), scope := fS 40, globals := 0, closure := [], defaults := Value.none, kwdefaults := Value.none } }
noncomputable def o435 : Params → Obj := by
  refine' (?f : (K : Params → Obj) → (∀ P, K P = o435r P) → (Params → Obj)) _ ?h
  case f => exact fun K _ => K
  case h =>
    intro P
    conv =>
      rhs
      delta o435r
      conv => pattern (occs := *) fB _; all_goals whnf
      conv => pattern (occs := *) fA _; all_goals whnf
      conv => pattern (occs := *) fS _; all_goals whnf
noncomputable def o436 (P : Params) : Obj := { cls := Value.type "code", data := Data.fields #[Value.str (Str.ofString "_law_signed") 759, Value.str (Str.ofString "_law_signed") 760, Value.str (Str.ofString "/claim/cut.py") 761, Value.int 223 0, Value.int 3 0, Value.int 0 0, Value.int 0 0, Value.int 3 0, Value.ref 427, Value.bool Bool.true, Value.int 181 0, Value.ref 428, Value.none, Value.ref 429, Value.ref 430, Value.ref 431, Value.int 765 0, Value.int 223 0, Value.str (Str.ofString "/claim/cut.py") 766] }
noncomputable def o437r (P : Params) : Obj := { cls := Value.type "function", data := Data.func { name := Str.ofString "_law_signed", qualname := Str.ofString "_law_signed", params := fA 40, body := FuncBody.stmts (fB 40), scope := fS 40, globals := 3, closure := [], defaults := Value.none, kwdefaults := Value.none, pyModule := Value.str (Str.ofString "law_og0006_01") 696, code := Value.ref 432 } }
noncomputable def o437 : Params → Obj := by
  refine' (?f : (K : Params → Obj) → (∀ P, K P = o437r P) → (Params → Obj)) _ ?h
  case f => exact fun K _ => K
  case h =>
    intro P
    conv =>
      rhs
      delta o437r
      conv => pattern (occs := *) fB _; all_goals whnf
      conv => pattern (occs := *) fA _; all_goals whnf
      conv => pattern (occs := *) fS _; all_goals whnf
noncomputable def o438 (P : Params) : Obj := { cls := Value.type "tuple", data := Data.seq #[] }
noncomputable def o439 (P : Params) : Obj := { cls := Value.none, data := Data.fields #[] }
noncomputable def o440r (P : Params) : Obj := { cls := Value.none, data := Data.func { name := Str.ofString "_law_trees", qualname := Str.ofString "_law_trees", params := fA 41, body := FuncBody.stmts (fB 41), scope := fS 41, globals := 0, closure := [], defaults := Value.none, kwdefaults := Value.none } }
noncomputable def o440 : Params → Obj := by
  refine' (?f : (K : Params → Obj) → (∀ P, K P = o440r P) → (Params → Obj)) _ ?h
  case f => exact fun K _ => K
  case h =>
    intro P
    conv =>
      rhs
      delta o440r
      conv => pattern (occs := *) fB _; all_goals whnf
      conv => pattern (occs := *) fA _; all_goals whnf
      conv => pattern (occs := *) fS _; all_goals whnf
noncomputable def o441 (P : Params) : Obj := { cls := Value.type "code", data := Data.fields #[Value.str (Str.ofString "_law_trees") 768, Value.str (Str.ofString "_law_trees") 769, Value.str (Str.ofString "/claim/cut.py") 770, Value.int 227 0, Value.int 2 0, Value.int 0 0, Value.int 0 0, Value.int 3 0, Value.ref 434, Value.bool Bool.true, Value.int 181 0, Value.ref 435, Value.none, Value.none, Value.none, Value.ref 436, Value.int 771 0, Value.int 227 0, Value.str (Str.ofString "/claim/cut.py") 772] }
noncomputable def o442r (P : Params) : Obj := { cls := Value.type "function", data := Data.func { name := Str.ofString "_law_trees", qualname := Str.ofString "_law_trees", params := fA 41, body := FuncBody.stmts (fB 41), scope := fS 41, globals := 3, closure := [], defaults := Value.none, kwdefaults := Value.none, pyModule := Value.str (Str.ofString "law_og0006_01") 696, code := Value.ref 437 } }
noncomputable def o442 : Params → Obj := by
  refine' (?f : (K : Params → Obj) → (∀ P, K P = o442r P) → (Params → Obj)) _ ?h
  case f => exact fun K _ => K
  case h =>
    intro P
    conv =>
      rhs
      delta o442r
      conv => pattern (occs := *) fB _; all_goals whnf
      conv => pattern (occs := *) fA _; all_goals whnf
      conv => pattern (occs := *) fS _; all_goals whnf
noncomputable def o443 (P : Params) : Obj := { cls := Value.type "tuple", data := Data.seq #[] }
noncomputable def o444 (P : Params) : Obj := { cls := Value.none, data := Data.fields #[] }
noncomputable def o445 (P : Params) : Obj := { cls := Value.type "tuple", data := Data.seq #[Value.str (Str.ofString "tree") 777, Value.str (Str.ofString "left") 778, Value.str (Str.ofString "right") 779] }
noncomputable def o446 (P : Params) : Obj := { cls := Value.type "tuple", data := Data.seq #[] }
noncomputable def o447r (P : Params) : Obj := { cls := Value.none, data := Data.func { name := Str.ofString "_law_node", qualname := Str.ofString "_law_node", params := fA 42, body := FuncBody.stmts (fB 42), scope := fS 42, globals := 0, closure := [], defaults := Value.none, kwdefaults := Value.none } }
noncomputable def o447 : Params → Obj := by
  refine' (?f : (K : Params → Obj) → (∀ P, K P = o447r P) → (Params → Obj)) _ ?h
  case f => exact fun K _ => K
  case h =>
    intro P
    conv =>
      rhs
      delta o447r
      conv => pattern (occs := *) fB _; all_goals whnf
      conv => pattern (occs := *) fA _; all_goals whnf
      conv => pattern (occs := *) fS _; all_goals whnf
noncomputable def o448 (P : Params) : Obj := { cls := Value.type "code", data := Data.fields #[Value.str (Str.ofString "_law_node") 774, Value.str (Str.ofString "_law_node") 775, Value.str (Str.ofString "/claim/cut.py") 776, Value.int 243 0, Value.int 1 0, Value.int 0 0, Value.int 0 0, Value.int 3 0, Value.ref 439, Value.bool Bool.true, Value.int 181 0, Value.ref 440, Value.none, Value.ref 441, Value.ref 442, Value.ref 443, Value.int 780 0, Value.int 243 0, Value.str (Str.ofString "/claim/cut.py") 781] }
noncomputable def o449r (P : Params) : Obj := { cls := Value.type "function", data := Data.func { name := Str.ofString "_law_node", qualname := Str.ofString "_law_node", params := fA 42, body := FuncBody.stmts (fB 42), scope := fS 42, globals := 3, closure := [], defaults := Value.none, kwdefaults := Value.none, pyModule := Value.str (Str.ofString "law_og0006_01") 696, code := Value.ref 444 } }
noncomputable def o449 : Params → Obj := by
  refine' (?f : (K : Params → Obj) → (∀ P, K P = o449r P) → (Params → Obj)) _ ?h
  case f => exact fun K _ => K
  case h =>
    intro P
    conv =>
      rhs
      delta o449r
      conv => pattern (occs := *) fB _; all_goals whnf
      conv => pattern (occs := *) fA _; all_goals whnf
      conv => pattern (occs := *) fS _; all_goals whnf
noncomputable def o450 (P : Params) : Obj := { cls := Value.type "tuple", data := Data.seq #[] }
noncomputable def o451 (P : Params) : Obj := { cls := Value.none, data := Data.fields #[] }
noncomputable def o452r (P : Params) : Obj := { cls := Value.none, data := Data.func { name := Str.ofString "law", qualname := Str.ofString "law", params := fA 43, body := FuncBody.stmts (fB 43), scope := fS 43, globals := 0, closure := [], defaults := Value.none, kwdefaults := Value.none } }
noncomputable def o452 : Params → Obj := by
  refine' (?f : (K : Params → Obj) → (∀ P, K P = o452r P) → (Params → Obj)) _ ?h
  case f => exact fun K _ => K
  case h =>
    intro P
    conv =>
      rhs
      delta o452r
      conv => pattern (occs := *) fB _; all_goals whnf
      conv => pattern (occs := *) fA _; all_goals whnf
      conv => pattern (occs := *) fS _; all_goals whnf
noncomputable def o453 (P : Params) : Obj := { cls := Value.type "code", data := Data.fields #[Value.str (Str.ofString "law") 783, Value.str (Str.ofString "law") 784, Value.str (Str.ofString "/claim/cut.py") 785, Value.int 252 0, Value.int 1 0, Value.int 0 0, Value.int 0 0, Value.int 3 0, Value.ref 446, Value.bool Bool.true, Value.int 181 0, Value.ref 447, Value.none, Value.none, Value.none, Value.ref 448, Value.int 786 0, Value.int 252 0, Value.str (Str.ofString "/claim/cut.py") 787] }
noncomputable def o454r (P : Params) : Obj := { cls := Value.type "function", data := Data.func { name := Str.ofString "law", qualname := Str.ofString "law", params := fA 43, body := FuncBody.stmts (fB 43), scope := fS 43, globals := 3, closure := [], defaults := Value.none, kwdefaults := Value.none, pyModule := Value.str (Str.ofString "law_og0006_01") 696, code := Value.ref 449 } }
noncomputable def o454 : Params → Obj := by
  refine' (?f : (K : Params → Obj) → (∀ P, K P = o454r P) → (Params → Obj)) _ ?h
  case f => exact fun K _ => K
  case h =>
    intro P
    conv =>
      rhs
      delta o454r
      conv => pattern (occs := *) fB _; all_goals whnf
      conv => pattern (occs := *) fA _; all_goals whnf
      conv => pattern (occs := *) fS _; all_goals whnf
noncomputable def tree6 (P : Params) : BT := (.node (boot_o_0 P) (.node (boot_o_1 P) (.node (o338 P) (.node (boot_o_7 P) (.node (o7 P) (.node (o23 P) (.node (o57 P) (.node (o123 P) (.node (o253 P) .nil .nil) (.node (o387 P) .nil .nil)) (.node (o187 P) (.node (o320 P) .nil .nil) (.node (o451 P) .nil .nil))) (.node (o89 P) (.node (o155 P) (.node (o288 P) .nil .nil) (.node (o419 P) .nil .nil)) (.node (o221 P) (.node (o355 P) .nil .nil) .nil))) (.node (o39 P) (.node (o73 P) (.node (o139 P) (.node (o269 P) .nil .nil) (.node (o403 P) .nil .nil)) (.node (o205 P) (.node (o336 P) .nil .nil) .nil)) (.node (o105 P) (.node (o171 P) (.node (o304 P) .nil .nil) (.node (o435 P) .nil .nil)) (.node (o237 P) (.node (o371 P) .nil .nil) .nil)))) (.node (o15 P) (.node (o31 P) (.node (o65 P) (.node (o131 P) (.node (o261 P) .nil .nil) (.node (o395 P) .nil .nil)) (.node (o197 P) (.node (o328 P) .nil .nil) .nil)) (.node (o97 P) (.node (o163 P) (.node (o296 P) .nil .nil) (.node (o427 P) .nil .nil)) (.node (o229 P) (.node (o363 P) .nil .nil) .nil))) (.node (o47 P) (.node (o81 P) (.node (o147 P) (.node (o277 P) .nil .nil) (.node (o411 P) .nil .nil)) (.node (o213 P) (.node (o347 P) .nil .nil) .nil)) (.node (o115 P) (.node (o179 P) (.node (o312 P) .nil .nil) (.node (o443 P) .nil .nil)) (.node (o245 P) (.node (o379 P) .nil .nil) .nil))))) (.node (o0 P) (.node (o11 P) (.node (o27 P) (.node (o61 P) (.node (o127 P) (.node (o257 P) .nil .nil) (.node (o391 P) .nil .nil)) (.node (o191 P) (.node (o324 P) .nil .nil) .nil)) (.node (o93 P) (.node (o159 P) (.node (o292 P) .nil .nil) (.node (o423 P) .nil .nil)) (.node (o225 P) (.node (o359 P) .nil .nil) .nil))) (.node (o43 P) (.node (o340 P) (.node (o143 P) (.node (o273 P) .nil .nil) (.node (o407 P) .nil .nil)) (.node (o209 P) (.node (o343 P) .nil .nil) .nil)) (.node (o111 P) (.node (o175 P) (.node (o308 P) .nil .nil) (.node (o439 P) .nil .nil)) (.node (o241 P) (.node (o375 P) .nil .nil) .nil)))) (.node (o19 P) (.node (o35 P) (.node (o69 P) (.node (o135 P) (.node (o265 P) .nil .nil) (.node (o399 P) .nil .nil)) (.node (o201 P) (.node (o332 P) .nil .nil) .nil)) (.node (o101 P) (.node (o167 P) (.node (o300 P) .nil .nil) (.node (o431 P) .nil .nil)) (.node (o233 P) (.node (o367 P) .nil .nil) .nil))) (.node (o51 P) (.node (o85 P) (.node (o151 P) (.node (o284 P) .nil .nil) (.node (o415 P) .nil .nil)) (.node (o217 P) (.node (o351 P) .nil .nil) .nil)) (.node (o119 P) (.node (o183 P) (.node (o316 P) .nil .nil) (.node (o447 P) .nil .nil)) (.node (o249 P) (.node (o383 P) .nil .nil) .nil)))))) (.node (boot_o_5 P) (.node (boot_o_9 P) (.node (o9 P) (.node (o25 P) (.node (o59 P) (.node (o125 P) (.node (o255 P) .nil .nil) (.node (o389 P) .nil .nil)) (.node (o189 P) (.node (o322 P) .nil .nil) (.node (o453 P) .nil .nil))) (.node (o91 P) (.node (o157 P) (.node (o290 P) .nil .nil) (.node (o421 P) .nil .nil)) (.node (o223 P) (.node (o357 P) .nil .nil) .nil))) (.node (o41 P) (.node (o75 P) (.node (o141 P) (.node (o271 P) .nil .nil) (.node (o405 P) .nil .nil)) (.node (o207 P) (.node (o341 P) .nil .nil) .nil)) (.node (o107 P) (.node (o173 P) (.node (o306 P) .nil .nil) (.node (o437 P) .nil .nil)) (.node (o239 P) (.node (o373 P) .nil .nil) .nil)))) (.node (o17 P) (.node (o33 P) (.node (o67 P) (.node (o133 P) (.node (o263 P) .nil .nil) (.node (o397 P) .nil .nil)) (.node (o199 P) (.node (o330 P) .nil .nil) .nil)) (.node (o99 P) (.node (o165 P) (.node (o298 P) .nil .nil) (.node (o429 P) .nil .nil)) (.node (o231 P) (.node (o365 P) .nil .nil) .nil))) (.node (o49 P) (.node (o83 P) (.node (o149 P) (.node (o279 P) .nil .nil) (.node (o413 P) .nil .nil)) (.node (o215 P) (.node (o349 P) .nil .nil) .nil)) (.node (o117 P) (.node (o181 P) (.node (o314 P) .nil .nil) (.node (o445 P) .nil .nil)) (.node (o247 P) (.node (o381 P) .nil .nil) .nil))))) (.node (o2 P) (.node (o13 P) (.node (o29 P) (.node (o63 P) (.node (o129 P) (.node (o259 P) .nil .nil) (.node (o393 P) .nil .nil)) (.node (o193 P) (.node (o326 P) .nil .nil) .nil)) (.node (o95 P) (.node (o161 P) (.node (o294 P) .nil .nil) (.node (o425 P) .nil .nil)) (.node (o227 P) (.node (o361 P) .nil .nil) .nil))) (.node (o45 P) (.node (o79 P) (.node (o145 P) (.node (o275 P) .nil .nil) (.node (o409 P) .nil .nil)) (.node (o211 P) (.node (o345 P) .nil .nil) .nil)) (.node (o113 P) (.node (o177 P) (.node (o310 P) .nil .nil) (.node (o441 P) .nil .nil)) (.node (o243 P) (.node (o377 P) .nil .nil) .nil)))) (.node (o21 P) (.node (o37 P) (.node (o71 P) (.node (o137 P) (.node (o267 P) .nil .nil) (.node (o401 P) .nil .nil)) (.node (o203 P) (.node (o334 P) .nil .nil) .nil)) (.node (o103 P) (.node (o169 P) (.node (o302 P) .nil .nil) (.node (o433 P) .nil .nil)) (.node (o235 P) (.node (o369 P) .nil .nil) .nil))) (.node (o55 P) (.node (o87 P) (.node (o153 P) (.node (o286 P) .nil .nil) (.node (o417 P) .nil .nil)) (.node (o219 P) (.node (o353 P) .nil .nil) .nil)) (.node (o121 P) (.node (o185 P) (.node (o318 P) .nil .nil) (.node (o449 P) .nil .nil)) (.node (o251 P) (.node (o385 P) .nil .nil) .nil))))))) (.node (o4 P) (.node (boot_o_4 P) (.node (boot_o_8 P) (.node (o8 P) (.node (o24 P) (.node (o58 P) (.node (o124 P) (.node (o254 P) .nil .nil) (.node (o388 P) .nil .nil)) (.node (o188 P) (.node (o321 P) .nil .nil) (.node (o452 P) .nil .nil))) (.node (o90 P) (.node (o156 P) (.node (o289 P) .nil .nil) (.node (o420 P) .nil .nil)) (.node (o222 P) (.node (o356 P) .nil .nil) .nil))) (.node (o40 P) (.node (o74 P) (.node (o140 P) (.node (o270 P) .nil .nil) (.node (o404 P) .nil .nil)) (.node (o206 P) (.node (o337 P) .nil .nil) .nil)) (.node (o106 P) (.node (o172 P) (.node (o305 P) .nil .nil) (.node (o436 P) .nil .nil)) (.node (o238 P) (.node (o372 P) .nil .nil) .nil)))) (.node (o16 P) (.node (o32 P) (.node (o66 P) (.node (o132 P) (.node (o262 P) .nil .nil) (.node (o396 P) .nil .nil)) (.node (o198 P) (.node (o329 P) .nil .nil) .nil)) (.node (o98 P) (.node (o164 P) (.node (o297 P) .nil .nil) (.node (o428 P) .nil .nil)) (.node (o230 P) (.node (o364 P) .nil .nil) .nil))) (.node (o48 P) (.node (o82 P) (.node (o148 P) (.node (o278 P) .nil .nil) (.node (o412 P) .nil .nil)) (.node (o214 P) (.node (o348 P) .nil .nil) .nil)) (.node (o116 P) (.node (o180 P) (.node (o313 P) .nil .nil) (.node (o444 P) .nil .nil)) (.node (o246 P) (.node (o380 P) .nil .nil) .nil))))) (.node (o339 P) (.node (o12 P) (.node (o28 P) (.node (o62 P) (.node (o128 P) (.node (o258 P) .nil .nil) (.node (o392 P) .nil .nil)) (.node (o192 P) (.node (o325 P) .nil .nil) .nil)) (.node (o94 P) (.node (o160 P) (.node (o293 P) .nil .nil) (.node (o424 P) .nil .nil)) (.node (o226 P) (.node (o360 P) .nil .nil) .nil))) (.node (o44 P) (.node (o78 P) (.node (o144 P) (.node (o274 P) .nil .nil) (.node (o408 P) .nil .nil)) (.node (o210 P) (.node (o344 P) .nil .nil) .nil)) (.node (o112 P) (.node (o176 P) (.node (o309 P) .nil .nil) (.node (o440 P) .nil .nil)) (.node (o242 P) (.node (o376 P) .nil .nil) .nil)))) (.node (o20 P) (.node (o36 P) (.node (o70 P) (.node (o136 P) (.node (o266 P) .nil .nil) (.node (o400 P) .nil .nil)) (.node (o202 P) (.node (o333 P) .nil .nil) .nil)) (.node (o102 P) (.node (o168 P) (.node (o301 P) .nil .nil) (.node (o432 P) .nil .nil)) (.node (o234 P) (.node (o368 P) .nil .nil) .nil))) (.node (o54 P) (.node (o86 P) (.node (o152 P) (.node (o285 P) .nil .nil) (.node (o416 P) .nil .nil)) (.node (o218 P) (.node (o352 P) .nil .nil) .nil)) (.node (o120 P) (.node (o184 P) (.node (o317 P) .nil .nil) (.node (o448 P) .nil .nil)) (.node (o250 P) (.node (o384 P) .nil .nil) .nil)))))) (.node (boot_o_6 P) (.node (boot_o_10 P) (.node (o10 P) (.node (o26 P) (.node (o60 P) (.node (o126 P) (.node (o256 P) .nil .nil) (.node (o390 P) .nil .nil)) (.node (o190 P) (.node (o323 P) .nil .nil) (.node (o454 P) .nil .nil))) (.node (o92 P) (.node (o158 P) (.node (o291 P) .nil .nil) (.node (o422 P) .nil .nil)) (.node (o224 P) (.node (o358 P) .nil .nil) .nil))) (.node (o42 P) (.node (o76 P) (.node (o142 P) (.node (o272 P) .nil .nil) (.node (o406 P) .nil .nil)) (.node (o208 P) (.node (o342 P) .nil .nil) .nil)) (.node (o108 P) (.node (o174 P) (.node (o307 P) .nil .nil) (.node (o438 P) .nil .nil)) (.node (o240 P) (.node (o374 P) .nil .nil) .nil)))) (.node (o18 P) (.node (o34 P) (.node (o68 P) (.node (o134 P) (.node (o264 P) .nil .nil) (.node (o398 P) .nil .nil)) (.node (o200 P) (.node (o331 P) .nil .nil) .nil)) (.node (o100 P) (.node (o166 P) (.node (o299 P) .nil .nil) (.node (o430 P) .nil .nil)) (.node (o232 P) (.node (o366 P) .nil .nil) .nil))) (.node (o50 P) (.node (o84 P) (.node (o150 P) (.node (o280 P) .nil .nil) (.node (o414 P) .nil .nil)) (.node (o216 P) (.node (o350 P) .nil .nil) .nil)) (.node (o118 P) (.node (o182 P) (.node (o315 P) .nil .nil) (.node (o446 P) .nil .nil)) (.node (o248 P) (.node (o382 P) .nil .nil) .nil))))) (.node (o3 P) (.node (o14 P) (.node (o30 P) (.node (o64 P) (.node (o130 P) (.node (o260 P) .nil .nil) (.node (o394 P) .nil .nil)) (.node (o194 P) (.node (o327 P) .nil .nil) .nil)) (.node (o96 P) (.node (o162 P) (.node (o295 P) .nil .nil) (.node (o426 P) .nil .nil)) (.node (o228 P) (.node (o362 P) .nil .nil) .nil))) (.node (o46 P) (.node (o80 P) (.node (o146 P) (.node (o276 P) .nil .nil) (.node (o410 P) .nil .nil)) (.node (o212 P) (.node (o346 P) .nil .nil) .nil)) (.node (o114 P) (.node (o178 P) (.node (o311 P) .nil .nil) (.node (o442 P) .nil .nil)) (.node (o244 P) (.node (o378 P) .nil .nil) .nil)))) (.node (o22 P) (.node (o38 P) (.node (o72 P) (.node (o138 P) (.node (o268 P) .nil .nil) (.node (o402 P) .nil .nil)) (.node (o204 P) (.node (o335 P) .nil .nil) .nil)) (.node (o104 P) (.node (o170 P) (.node (o303 P) .nil .nil) (.node (o434 P) .nil .nil)) (.node (o236 P) (.node (o370 P) .nil .nil) .nil))) (.node (o56 P) (.node (o88 P) (.node (o154 P) (.node (o287 P) .nil .nil) (.node (o418 P) .nil .nil)) (.node (o220 P) (.node (o354 P) .nil .nil) .nil)) (.node (o122 P) (.node (o186 P) (.node (o319 P) .nil .nil) (.node (o450 P) .nil .nil)) (.node (o252 P) (.node (o386 P) .nil .nil) .nil))))))))
noncomputable def st6 (w : World) (os : OsState) : SharedT := ⟨tree6 w.params, 451, { }, ⟨[]⟩, { }, 789, os⟩
noncomputable def sts6 : List Stmt := (bodyT.drop 28).take 16
noncomputable def heapZ (P : Params) : Heap := ⟨⟨[boot_o_0 P, boot_o_1 P, o4 P, o338 P, boot_o_4 P, boot_o_5 P, boot_o_6 P, boot_o_7 P, boot_o_8 P, boot_o_9 P, boot_o_10 P, o0 P, o339 P, o2 P, o3 P, o7 P, o8 P, o9 P, o10 P, o11 P, o12 P, o13 P, o14 P, o15 P, o16 P, o17 P, o18 P, o19 P, o20 P, o21 P, o22 P, o23 P, o24 P, o25 P, o26 P, o27 P, o28 P, o29 P, o30 P, o31 P, o32 P, o33 P, o34 P, o35 P, o36 P, o37 P, o38 P, o39 P, o40 P, o41 P, o42 P, o43 P, o44 P, o45 P, o46 P, o47 P, o48 P, o49 P, o50 P, o51 P, o54 P, o55 P, o56 P, o57 P, o58 P, o59 P, o60 P, o61 P, o62 P, o63 P, o64 P, o65 P, o66 P, o67 P, o68 P, o69 P, o70 P, o71 P, o72 P, o73 P, o74 P, o75 P, o76 P, o340 P, o78 P, o79 P, o80 P, o81 P, o82 P, o83 P, o84 P, o85 P, o86 P, o87 P, o88 P, o89 P, o90 P, o91 P, o92 P, o93 P, o94 P, o95 P, o96 P, o97 P, o98 P, o99 P, o100 P, o101 P, o102 P, o103 P, o104 P, o105 P, o106 P, o107 P, o108 P, o111 P, o112 P, o113 P, o114 P, o115 P, o116 P, o117 P, o118 P, o119 P, o120 P, o121 P, o122 P, o123 P, o124 P, o125 P, o126 P, o127 P, o128 P, o129 P, o130 P, o131 P, o132 P, o133 P, o134 P, o135 P, o136 P, o137 P, o138 P, o139 P, o140 P, o141 P, o142 P, o143 P, o144 P, o145 P, o146 P, o147 P, o148 P, o149 P, o150 P, o151 P, o152 P, o153 P, o154 P, o155 P, o156 P, o157 P, o158 P, o159 P, o160 P, o161 P, o162 P, o163 P, o164 P, o165 P, o166 P, o167 P, o168 P, o169 P, o170 P, o171 P, o172 P, o173 P, o174 P, o175 P, o176 P, o177 P, o178 P, o179 P, o180 P, o181 P, o182 P, o183 P, o184 P, o185 P, o186 P, o187 P, o188 P, o189 P, o190 P, o191 P, o192 P, o193 P, o194 P, o197 P, o198 P, o199 P, o200 P, o201 P, o202 P, o203 P, o204 P, o205 P, o206 P, o207 P, o208 P, o209 P, o210 P, o211 P, o212 P, o213 P, o214 P, o215 P, o216 P, o217 P, o218 P, o219 P, o220 P, o221 P, o222 P, o223 P, o224 P, o225 P, o226 P, o227 P, o228 P, o229 P, o230 P, o231 P, o232 P, o233 P, o234 P, o235 P, o236 P, o237 P, o238 P, o239 P, o240 P, o241 P, o242 P, o243 P, o244 P, o245 P, o246 P, o247 P, o248 P, o249 P, o250 P, o251 P, o252 P, o253 P, o254 P, o255 P, o256 P, o257 P, o258 P, o259 P, o260 P, o261 P, o262 P, o263 P, o264 P, o265 P, o266 P, o267 P, o268 P, o269 P, o270 P, o271 P, o272 P, o273 P, o274 P, o275 P, o276 P, o277 P, o278 P, o279 P, o280 P, o284 P, o285 P, o286 P, o287 P, o288 P, o289 P, o290 P, o291 P, o292 P, o293 P, o294 P, o295 P, o296 P, o297 P, o298 P, o299 P, o300 P, o301 P, o302 P, o303 P, o304 P, o305 P, o306 P, o307 P, o308 P, o309 P, o310 P, o311 P, o312 P, o313 P, o314 P, o315 P, o316 P, o317 P, o318 P, o319 P, o320 P, o321 P, o322 P, o323 P, o324 P, o325 P, o326 P, o327 P, o328 P, o329 P, o330 P, o331 P, o332 P, o333 P, o334 P, o335 P, o336 P, o337 P, o341 P, o342 P, o343 P, o344 P, o345 P, o346 P, o347 P, o348 P, o349 P, o350 P, o351 P, o352 P, o353 P, o354 P, o355 P, o356 P, o357 P, o358 P, o359 P, o360 P, o361 P, o362 P, o363 P, o364 P, o365 P, o366 P, o367 P, o368 P, o369 P, o370 P, o371 P, o372 P, o373 P, o374 P, o375 P, o376 P, o377 P, o378 P, o379 P, o380 P, o381 P, o382 P, o383 P, o384 P, o385 P, o386 P, o387 P, o388 P, o389 P, o390 P, o391 P, o392 P, o393 P, o394 P, o395 P, o396 P, o397 P, o398 P, o399 P, o400 P, o401 P, o402 P, o403 P, o404 P, o405 P, o406 P, o407 P, o408 P, o409 P, o410 P, o411 P, o412 P, o413 P, o414 P, o415 P, o416 P, o417 P, o418 P, o419 P, o420 P, o421 P, o422 P, o423 P, o424 P, o425 P, o426 P, o427 P, o428 P, o429 P, o430 P, o431 P, o432 P, o433 P, o434 P, o435 P, o436 P, o437 P, o438 P, o439 P, o440 P, o441 P, o442 P, o443 P, o444 P, o445 P, o446 P, o447 P, o448 P, o449 P, o450 P, o451 P, o452 P, o453 P, o454 P]⟩, { }⟩
noncomputable def Kraw (P : Params) : Frag := (nat_lit 2, o4 P) :: (nat_lit 3, o338 P) :: (nat_lit 15, o7 P) :: (nat_lit 17, o9 P) :: (nat_lit 18, o10 P) :: (nat_lit 20, o12 P) :: (nat_lit 21, o13 P) :: (nat_lit 22, o14 P) :: (nat_lit 29, o21 P) :: (nat_lit 30, o22 P) :: (nat_lit 32, o24 P) :: (nat_lit 33, o25 P) :: (nat_lit 35, o27 P) :: (nat_lit 36, o28 P) :: (nat_lit 37, o29 P) :: (nat_lit 38, o30 P) :: (nat_lit 39, o31 P) :: (nat_lit 40, o32 P) :: (nat_lit 43, o35 P) :: (nat_lit 50, o42 P) :: (nat_lit 51, o43 P) :: (nat_lit 52, o44 P) :: (nat_lit 55, o47 P) :: (nat_lit 58, o50 P) :: (nat_lit 59, o51 P) :: (nat_lit 67, o61 P) :: (nat_lit 69, o63 P) :: (nat_lit 70, o64 P) :: (nat_lit 72, o66 P) :: (nat_lit 73, o67 P) :: (nat_lit 74, o68 P) :: (nat_lit 76, o70 P) :: (nat_lit 77, o71 P) :: (nat_lit 79, o73 P) :: (nat_lit 80, o74 P) :: (nat_lit 81, o75 P) :: (nat_lit 82, o76 P) :: (nat_lit 83, o340 P) :: (nat_lit 84, o78 P) :: (nat_lit 85, o79 P) :: (nat_lit 88, o82 P) :: (nat_lit 95, o89 P) :: (nat_lit 96, o90 P) :: (nat_lit 98, o92 P) :: (nat_lit 99, o93 P) :: (nat_lit 101, o95 P) :: (nat_lit 102, o96 P) :: (nat_lit 103, o97 P) :: (nat_lit 105, o99 P) :: (nat_lit 106, o100 P) :: (nat_lit 108, o102 P) :: (nat_lit 109, o103 P) :: (nat_lit 110, o104 P) :: (nat_lit 111, o105 P) :: (nat_lit 112, o106 P) :: (nat_lit 122, o118 P) :: (nat_lit 124, o120 P) :: (nat_lit 125, o121 P) :: (nat_lit 127, o123 P) :: (nat_lit 128, o124 P) :: (nat_lit 129, o125 P) :: (nat_lit 130, o126 P) :: (nat_lit 131, o127 P) :: (nat_lit 132, o128 P) :: (nat_lit 133, o129 P) :: (nat_lit 136, o132 P) :: (nat_lit 138, o134 P) :: (nat_lit 139, o135 P) :: (nat_lit 141, o137 P) :: (nat_lit 142, o138 P) :: (nat_lit 143, o139 P) :: (nat_lit 145, o141 P) :: (nat_lit 146, o142 P) :: (nat_lit 148, o144 P) :: (nat_lit 149, o145 P) :: (nat_lit 150, o146 P) :: (nat_lit 152, o148 P) :: (nat_lit 153, o149 P) :: (nat_lit 155, o151 P) :: (nat_lit 156, o152 P) :: (nat_lit 157, o153 P) :: (nat_lit 159, o155 P) :: (nat_lit 160, o156 P) :: (nat_lit 162, o158 P) :: (nat_lit 163, o159 P) :: (nat_lit 171, o167 P) :: (nat_lit 173, o169 P) :: (nat_lit 174, o170 P) :: (nat_lit 176, o172 P) :: (nat_lit 177, o173 P) :: (nat_lit 178, o174 P) :: (nat_lit 179, o175 P) :: (nat_lit 180, o176 P) :: (nat_lit 181, o177 P) :: (nat_lit 182, o178 P) :: (nat_lit 185, o181 P) :: (nat_lit 187, o183 P) :: (nat_lit 188, o184 P) :: (nat_lit 190, o186 P) :: (nat_lit 191, o187 P) :: (nat_lit 192, o188 P) :: (nat_lit 194, o190 P) :: (nat_lit 195, o191 P) :: (nat_lit 197, o193 P) :: (nat_lit 198, o194 P) :: (nat_lit 206, o204 P) :: (nat_lit 208, o206 P) :: (nat_lit 209, o207 P) :: (nat_lit 211, o209 P) :: (nat_lit 212, o210 P) :: (nat_lit 213, o211 P) :: (nat_lit 215, o213 P) :: (nat_lit 216, o214 P) :: (nat_lit 218, o216 P) :: (nat_lit 219, o217 P) :: (nat_lit 220, o218 P) :: (nat_lit 222, o220 P) :: (nat_lit 223, o221 P) :: (nat_lit 225, o223 P) :: (nat_lit 226, o224 P) :: (nat_lit 227, o225 P) :: (nat_lit 229, o227 P) :: (nat_lit 230, o228 P) :: (nat_lit 232, o230 P) :: (nat_lit 233, o231 P) :: (nat_lit 234, o232 P) :: (nat_lit 236, o234 P) :: (nat_lit 237, o235 P) :: (nat_lit 239, o237 P) :: (nat_lit 240, o238 P) :: (nat_lit 241, o239 P) :: (nat_lit 243, o241 P) :: (nat_lit 244, o242 P) :: (nat_lit 246, o244 P) :: (nat_lit 247, o245 P) :: (nat_lit 248, o246 P) :: (nat_lit 250, o248 P) :: (nat_lit 251, o249 P) :: (nat_lit 253, o251 P) :: (nat_lit 254, o252 P) :: (nat_lit 255, o253 P) :: (nat_lit 257, o255 P) :: (nat_lit 258, o256 P) :: (nat_lit 260, o258 P) :: (nat_lit 261, o259 P) :: (nat_lit 262, o260 P) :: (nat_lit 264, o262 P) :: (nat_lit 265, o263 P) :: (nat_lit 267, o265 P) :: (nat_lit 268, o266 P) :: (nat_lit 269, o267 P) :: (nat_lit 270, o268 P) :: (nat_lit 271, o269 P) :: (nat_lit 272, o270 P) :: (nat_lit 273, o271 P) :: (nat_lit 276, o274 P) :: (nat_lit 278, o276 P) :: (nat_lit 279, o277 P) :: (nat_lit 281, o279 P) :: (nat_lit 282, o280 P) :: (nat_lit 283, o284 P) :: (nat_lit 290, o291 P) :: (nat_lit 291, o292 P) :: (nat_lit 293, o294 P) :: (nat_lit 294, o295 P) :: (nat_lit 296, o297 P) :: (nat_lit 297, o298 P) :: (nat_lit 298, o299 P) :: (nat_lit 300, o301 P) :: (nat_lit 301, o302 P) :: (nat_lit 303, o304 P) :: (nat_lit 304, o305 P) :: (nat_lit 305, o306 P) :: (nat_lit 306, o307 P) :: (nat_lit 307, o308 P) :: (nat_lit 310, o311 P) :: (nat_lit 317, o318 P) :: (nat_lit 318, o319 P) :: (nat_lit 320, o321 P) :: (nat_lit 321, o322 P) :: (nat_lit 323, o324 P) :: (nat_lit 324, o325 P) :: (nat_lit 325, o326 P) :: (nat_lit 327, o328 P) :: (nat_lit 328, o329 P) :: (nat_lit 330, o331 P) :: (nat_lit 331, o332 P) :: (nat_lit 332, o333 P) :: (nat_lit 333, o334 P) :: (nat_lit 334, o335 P) :: (nat_lit 337, o341 P) :: (nat_lit 344, o348 P) :: (nat_lit 345, o349 P) :: (nat_lit 347, o351 P) :: (nat_lit 348, o352 P) :: (nat_lit 350, o354 P) :: (nat_lit 351, o355 P) :: (nat_lit 352, o356 P) :: (nat_lit 354, o358 P) :: (nat_lit 355, o359 P) :: (nat_lit 357, o361 P) :: (nat_lit 358, o362 P) :: (nat_lit 359, o363 P) :: (nat_lit 360, o364 P) :: (nat_lit 361, o365 P) :: (nat_lit 364, o368 P) :: (nat_lit 366, o370 P) :: (nat_lit 367, o371 P) :: (nat_lit 369, o373 P) :: (nat_lit 370, o374 P) :: (nat_lit 371, o375 P) :: (nat_lit 373, o377 P) :: (nat_lit 374, o378 P) :: (nat_lit 376, o380 P) :: (nat_lit 377, o381 P) :: (nat_lit 378, o382 P) :: (nat_lit 380, o384 P) :: (nat_lit 381, o385 P) :: (nat_lit 383, o387 P) :: (nat_lit 384, o388 P) :: (nat_lit 385, o389 P) :: (nat_lit 387, o391 P) :: (nat_lit 388, o392 P) :: (nat_lit 390, o394 P) :: (nat_lit 391, o395 P) :: (nat_lit 392, o396 P) :: (nat_lit 394, o398 P) :: (nat_lit 395, o399 P) :: (nat_lit 397, o401 P) :: (nat_lit 398, o402 P) :: (nat_lit 399, o403 P) :: (nat_lit 401, o405 P) :: (nat_lit 402, o406 P) :: (nat_lit 404, o408 P) :: (nat_lit 405, o409 P) :: (nat_lit 406, o410 P) :: (nat_lit 408, o412 P) :: (nat_lit 409, o413 P) :: (nat_lit 411, o415 P) :: (nat_lit 412, o416 P) :: (nat_lit 413, o417 P) :: (nat_lit 415, o419 P) :: (nat_lit 416, o420 P) :: (nat_lit 418, o422 P) :: (nat_lit 419, o423 P) :: (nat_lit 420, o424 P) :: (nat_lit 422, o426 P) :: (nat_lit 423, o427 P) :: (nat_lit 425, o429 P) :: (nat_lit 426, o430 P) :: (nat_lit 427, o431 P) :: (nat_lit 429, o433 P) :: (nat_lit 430, o434 P) :: (nat_lit 432, o436 P) :: (nat_lit 433, o437 P) :: (nat_lit 434, o438 P) :: (nat_lit 437, o441 P) :: (nat_lit 438, o442 P) :: (nat_lit 439, o443 P) :: (nat_lit 441, o445 P) :: (nat_lit 442, o446 P) :: (nat_lit 444, o448 P) :: (nat_lit 445, o449 P) :: (nat_lit 446, o450 P) :: (nat_lit 449, o453 P) :: (nat_lit 450, o454 P) :: []
noncomputable def K39 : Params → Frag := by
  refine' (?f : (K : Params → Frag) → (∀ P, K P = Kraw P) → (Params → Frag)) _ ?h
  case f => exact fun K _ => K
  case h =>
    intro P
    conv =>
      rhs
      delta Kraw
      delta o4 o7 o9 o10 o12 o13 o14 o21 o22 o24 o25 o27 o28 o29 o30 o31 o32 o35 o42 o43 o44 o47 o50 o51 o61 o63 o64 o66 o67 o68 o70 o71 o73 o74 o75 o76 o78 o79 o82 o89 o90 o92 o93 o95 o96 o97 o99 o100 o102 o103 o104 o105 o106 o118 o120 o121 o123 o124 o125 o126 o127 o128 o129 o132 o134 o135 o137 o138 o139 o141 o142 o144 o145 o146 o148 o149 o151 o152 o153 o155 o156 o158 o159 o167 o169 o170 o172 o173 o174 o175 o176 o177 o178 o181 o183 o184 o186 o187 o188 o190 o191 o193 o194 o204 o206 o207 o209 o210 o211 o213 o214 o216 o217 o218 o220 o221 o223 o224 o225 o227 o228 o230 o231 o232 o234 o235 o237 o238 o239 o241 o242 o244 o245 o246 o248 o249 o251 o252 o253 o255 o256 o258 o259 o260 o262 o263 o265 o266 o267 o268 o269 o270 o271 o274 o276 o277 o279 o280 o284 o291 o292 o294 o295 o297 o298 o299 o301 o302 o304 o305 o306 o307 o308 o311 o318 o319 o321 o322 o324 o325 o326 o328 o329 o331 o332 o333 o334 o335 o338 o340 o341 o348 o349 o351 o352 o354 o355 o356 o358 o359 o361 o362 o363 o364 o365 o368 o370 o371 o373 o374 o375 o377 o378 o380 o381 o382 o384 o385 o387 o388 o389 o391 o392 o394 o395 o396 o398 o399 o401 o402 o403 o405 o406 o408 o409 o410 o412 o413 o415 o416 o417 o419 o420 o422 o423 o424 o426 o427 o429 o430 o431 o433 o434 o436 o437 o438 o441 o442 o443 o445 o446 o448 o449 o450 o453 o454
noncomputable def asK : List Addr := [nat_lit 2, nat_lit 3, nat_lit 15, nat_lit 17, nat_lit 18, nat_lit 20, nat_lit 21, nat_lit 22, nat_lit 29, nat_lit 30, nat_lit 32, nat_lit 33, nat_lit 35, nat_lit 36, nat_lit 37, nat_lit 38, nat_lit 39, nat_lit 40, nat_lit 43, nat_lit 50, nat_lit 51, nat_lit 52, nat_lit 55, nat_lit 58, nat_lit 59, nat_lit 67, nat_lit 69, nat_lit 70, nat_lit 72, nat_lit 73, nat_lit 74, nat_lit 76, nat_lit 77, nat_lit 79, nat_lit 80, nat_lit 81, nat_lit 82, nat_lit 83, nat_lit 84, nat_lit 85, nat_lit 88, nat_lit 95, nat_lit 96, nat_lit 98, nat_lit 99, nat_lit 101, nat_lit 102, nat_lit 103, nat_lit 105, nat_lit 106, nat_lit 108, nat_lit 109, nat_lit 110, nat_lit 111, nat_lit 112, nat_lit 122, nat_lit 124, nat_lit 125, nat_lit 127, nat_lit 128, nat_lit 129, nat_lit 130, nat_lit 131, nat_lit 132, nat_lit 133, nat_lit 136, nat_lit 138, nat_lit 139, nat_lit 141, nat_lit 142, nat_lit 143, nat_lit 145, nat_lit 146, nat_lit 148, nat_lit 149, nat_lit 150, nat_lit 152, nat_lit 153, nat_lit 155, nat_lit 156, nat_lit 157, nat_lit 159, nat_lit 160, nat_lit 162, nat_lit 163, nat_lit 171, nat_lit 173, nat_lit 174, nat_lit 176, nat_lit 177, nat_lit 178, nat_lit 179, nat_lit 180, nat_lit 181, nat_lit 182, nat_lit 185, nat_lit 187, nat_lit 188, nat_lit 190, nat_lit 191, nat_lit 192, nat_lit 194, nat_lit 195, nat_lit 197, nat_lit 198, nat_lit 206, nat_lit 208, nat_lit 209, nat_lit 211, nat_lit 212, nat_lit 213, nat_lit 215, nat_lit 216, nat_lit 218, nat_lit 219, nat_lit 220, nat_lit 222, nat_lit 223, nat_lit 225, nat_lit 226, nat_lit 227, nat_lit 229, nat_lit 230, nat_lit 232, nat_lit 233, nat_lit 234, nat_lit 236, nat_lit 237, nat_lit 239, nat_lit 240, nat_lit 241, nat_lit 243, nat_lit 244, nat_lit 246, nat_lit 247, nat_lit 248, nat_lit 250, nat_lit 251, nat_lit 253, nat_lit 254, nat_lit 255, nat_lit 257, nat_lit 258, nat_lit 260, nat_lit 261, nat_lit 262, nat_lit 264, nat_lit 265, nat_lit 267, nat_lit 268, nat_lit 269, nat_lit 270, nat_lit 271, nat_lit 272, nat_lit 273, nat_lit 276, nat_lit 278, nat_lit 279, nat_lit 281, nat_lit 282, nat_lit 283, nat_lit 290, nat_lit 291, nat_lit 293, nat_lit 294, nat_lit 296, nat_lit 297, nat_lit 298, nat_lit 300, nat_lit 301, nat_lit 303, nat_lit 304, nat_lit 305, nat_lit 306, nat_lit 307, nat_lit 310, nat_lit 317, nat_lit 318, nat_lit 320, nat_lit 321, nat_lit 323, nat_lit 324, nat_lit 325, nat_lit 327, nat_lit 328, nat_lit 330, nat_lit 331, nat_lit 332, nat_lit 333, nat_lit 334, nat_lit 337, nat_lit 344, nat_lit 345, nat_lit 347, nat_lit 348, nat_lit 350, nat_lit 351, nat_lit 352, nat_lit 354, nat_lit 355, nat_lit 357, nat_lit 358, nat_lit 359, nat_lit 360, nat_lit 361, nat_lit 364, nat_lit 366, nat_lit 367, nat_lit 369, nat_lit 370, nat_lit 371, nat_lit 373, nat_lit 374, nat_lit 376, nat_lit 377, nat_lit 378, nat_lit 380, nat_lit 381, nat_lit 383, nat_lit 384, nat_lit 385, nat_lit 387, nat_lit 388, nat_lit 390, nat_lit 391, nat_lit 392, nat_lit 394, nat_lit 395, nat_lit 397, nat_lit 398, nat_lit 399, nat_lit 401, nat_lit 402, nat_lit 404, nat_lit 405, nat_lit 406, nat_lit 408, nat_lit 409, nat_lit 411, nat_lit 412, nat_lit 413, nat_lit 415, nat_lit 416, nat_lit 418, nat_lit 419, nat_lit 420, nat_lit 422, nat_lit 423, nat_lit 425, nat_lit 426, nat_lit 427, nat_lit 429, nat_lit 430, nat_lit 432, nat_lit 433, nat_lit 434, nat_lit 437, nat_lit 438, nat_lit 439, nat_lit 441, nat_lit 442, nat_lit 444, nat_lit 445, nat_lit 446, nat_lit 449, nat_lit 450]
noncomputable def keepI : List Nat := [0, 2, 3, 5, 6, 7, 9, 10, 11, 12, 13, 14, 16, 17, 18, 19, 20, 21, 22, 23, 24, 26, 27, 28, 30, 31, 32, 34, 35, 36, 37, 38, 39, 40, 41, 42, 43]
theorem t_pre : ∀ w : World, (fun os : OsState => topGo treeTable PP w 11 annT 12 ⟨boot_heap w.params, ⟨[]⟩, boot_drawn, boot_toks, os⟩ (topStub PP)) = fun os => some (stA w os, ⟨denote treeTable cT, cT, ⟨0, 0, 0, 0⟩, BT0⟩) := by
  intro w; kernel_rfl
theorem t_blk : ∀ w : World, (fun os : OsState => segRun treeTable PP w 11 annT 1 1 (stA w os) (blockOf bodyT envT cT ⟨0, 0, 0, 0⟩ BT0)) = fun os => some (.next, (st0 w os).abs, cT, ⟨0, 0, 0, 0⟩) := by
  intro w; kernel_rfl
theorem t_g1 : ∀ w : World, (fun os : OsState => segRunT treeTable PP w 11 annT 1 518 (st0 w os) (piecesOf sts1 envT cT ⟨0, 0, 0, 0⟩ BT0)) = fun os => some (.next, st1 w os, cT, ⟨14, 0, 15, 48⟩) := by
  intro w; kernel_rfl
theorem t_g2 : ∀ w : World, (fun os : OsState => segRunT treeTable PP w 11 annT 1 552 (st1 w os) (piecesOf sts2 envT cT ⟨14, 0, 15, 48⟩ BT0)) = fun os => some (.next, st2 w os, cT, ⟨33, 0, 33, 5⟩) := by
  intro w; kernel_rfl
theorem t_g3 : ∀ w : World, (fun os : OsState => segRunT treeTable PP w 11 annT 1 672 (st2 w os) (piecesOf sts3 envT cT ⟨33, 0, 33, 5⟩ BT0)) = fun os => some (.next, st3 w os, cT, ⟨64, 0, 65, 86⟩) := by
  intro w; kernel_rfl
theorem t_g4 : ∀ w : World, (fun os : OsState => segRunT treeTable PP w 11 annT 1 537 (st3 w os) (piecesOf sts4 envT cT ⟨64, 0, 65, 86⟩ BT0)) = fun os => some (.next, st4 w os, cT, ⟨138, 0, 138, 8⟩) := by
  intro w; kernel_rfl
theorem t_g5 : ∀ w : World, (fun os : OsState => segRunT treeTable PP w 11 annT 1 559 (st4 w os) (piecesOf sts5 envT cT ⟨138, 0, 138, 8⟩ BT0)) = fun os => some (.next, st5 w os, cT, ⟨147, 0, 155, 46⟩) := by
  intro w; kernel_rfl
theorem t_g6 : ∀ w : World, (fun os : OsState => segRunT treeTable PP w 11 annT 1 697 (st5 w os) (piecesOf sts6 envT cT ⟨147, 0, 155, 46⟩ BT0)) = fun os => some (.next, st6 w os, cT, ⟨252, 0, 267, 41⟩) := by
  intro w; kernel_rfl
theorem t_fin : ∀ w : World, (fun os : OsState => topRun treeTable PP w 11 annT 2 (st6 w os).abs ⟨doneF .next, cT, ⟨252, 0, 267, 41⟩, BT0⟩) = fun os => some ⟨heapZ w.params, ⟨[]⟩, {}, 789, os⟩ := by
  intro w; kernel_rfl
theorem t_body : bodyT = (sts1 ++ (sts2 ++ (sts3 ++ (sts4 ++ (sts5 ++ (sts6 ++ [])))))) := by kernel_rfl
theorem t_rest (w : World) (os : OsState) : topRun treeTable PP w 11 annT (518 + (552 + (672 + (537 + (559 + (697 + 2)))))) (st0 w os).abs (restOf (sts1 ++ (sts2 ++ (sts3 ++ (sts4 ++ (sts5 ++ (sts6 ++ [])))))) envT cT ⟨0, 0, 0, 0⟩ BT0) = some ⟨heapZ w.params, ⟨[]⟩, {}, 789, os⟩ :=
  piece_app (segRun_of (congrFun (t_g1 w) os)) (piece_app (segRun_of (congrFun (t_g2 w) os)) (piece_app (segRun_of (congrFun (t_g3 w) os)) (piece_app (segRun_of (congrFun (t_g4 w) os)) (piece_app (segRun_of (congrFun (t_g5 w) os)) (piece_app (segRun_of (congrFun (t_g6 w) os)) (piece_nil (congrFun (t_fin w) os)))))))
theorem t_run (w : World) (os : OsState) : topRun treeTable PP w 11 annT (12 + (1 + (518 + (552 + (672 + (537 + (559 + (697 + 2)))))))) ⟨boot_heap w.params, ⟨[]⟩, boot_drawn, boot_toks, os⟩ (topStub PP) = some ⟨heapZ w.params, ⟨[]⟩, {}, 789, os⟩ :=
  go_top (congrFun (t_pre w) os) (piece_block (congrFun (t_blk w) os) (by have h := t_rest w os; rw [← t_body] at h; exact h))
theorem t_open : ∀ w : World, (fencedOpening treeTable PP w 7184).map (fun s => (s.heap, s.gens, s.drawn, s.toks)) = some (boot_heap w.params, ⟨[]⟩, boot_drawn, boot_toks) :=
  boot_open (by kernel_rfl) (by decide) (fun s => by kernel_rfl)
theorem t_size : ∀ w : World, ((boot_heap w.params).isNs mainGlobals && (⟨[]⟩ : Array GenState).size == 0, (boot_heap w.params).objs.size, (boot_heap w.params).nsMap mainGlobals "__annotations__") = (true, 11, annT) := by
  intro w; kernel_rfl
noncomputable def looseT : List Str := [Str.ofString "LazyError", Str.ofString "Op", Str.ofString "PVar", Str.ofString "PLit", Str.ofString "PCon"]
noncomputable def pick : List Nat → List Stmt → List Stmt
  | [], _ => []
  | i :: r, l => (match l.drop i with | x :: _ => [x] | [] => []) ++ pick r l
noncomputable def viewT : Program := { PP with main := { PP.main with body := pick keepI PP.main.body } }
theorem t_keys : ∀ P, asK = (K39 P).map (·.1) := fun _ => by kernel_rfl
abbrev RR : RowW := OpenRow.toRowW PySem.Challenge.rw_og0006_01.row
noncomputable abbrev HkT : Hook := kHook K39 asK t_keys
noncomputable abbrev XtT : Shared → Bool := fun s => xlAt viewT [] s && recOk (RowW.records RR) s
theorem t_look : ∀ w : World, (fun os : OsState => ((staticsOk (importedModules PP.main.body) (boot_heap w.params) (heapZ w.params) && namesBound PP (heapZ w.params) && gensDone ⟨heapZ w.params, ⟨[]⟩, {}, 789, os⟩ && laidKept (boot_heap w.params) (heapZ w.params)),
    openSeen viewT looseT (importedModules PP.main.body) XtT true ⟨heapZ w.params, ⟨[]⟩, {}, 789, os⟩, Hook.obs HkT ⟨heapZ w.params, ⟨[]⟩, {}, 789, os⟩)) = fun _ => (true, openGood viewT looseT, Hook.val HkT w) := by
  intro w; kernel_rfl
theorem t_left : LeftO PP viewT looseT XtT (Hook.obs HkT) (Hook.val HkT) 7184 true :=
  LeftO.of_pieces t_open t_size t_run (by decide) t_look
/- Small words for the walk's own lines: a line names its rule and, by one letter a hole, the tactic that fills it.
   `Tac`: a piece of tactic, given the way in which names are made fresh. -/
abbrev Stx := Lean.Syntax
abbrev Tac := (Lean.Name → Lean.Name) → Stx
def nd (k : String) (l : List Stx) : Stx := .node .none k.toName l.toArray
def ta (k : String) (l : List Stx) : Stx := nd ("Lean.Parser.Tactic." ++ k) l
def tok (s : String) : Stx := .atom .none s
def nul (l : List Stx) : Stx := nd "null" l
def idn (n : Lean.Name) : Stx := .ident .none (Lean.Name.toString n).toRawSubstring n []
def named (s : String) : Stx := idn s.toName
def words (s : String) : List String := s.splitOn " "
def steps (l : List Stx) : Stx := ta "tacticSeq" [ta "tacticSeq1Indented" [nul (l.intersperse (tok ";"))]]
def app (f : Stx) (l : List Stx) : Stx := if l.isEmpty then f else nd "Lean.Parser.Term.app" [f, nul l]
def hole : Stx := nd "Lean.Parser.Term.hole" [tok "_"]
def hole? (x : Stx) : Stx := nd "Lean.Parser.Term.syntheticHole" [tok "?", x]
def appL : List Stx → Stx
  | [] => hole
  | f :: l => app f l
/-- One word of a term: `_`, a number, a text in quotes, a name; `%` ahead of a name made fresh. -/
def word (f : Lean.Name → Lean.Name) (t : String) : Stx :=
  if t == "_" then hole else if t == "?_" then hole? (tok "_") else
  match t.toList with
  | '"' :: _ => nd "str" [tok t]
  | '%' :: r => idn (f (String.ofList r).toName)
  | '@' :: r => nd "Lean.Parser.Term.explicit" [tok "@", named (String.ofList r)]
  | c :: _ => if c.isDigit then nd "num" [tok t] else named t
  | [] => hole
/-- One more word upon the stack of open applications; parentheses are words. -/
def push (f : Lean.Name → Lean.Name) (st : List (List Stx)) (t : String) : List (List Stx) :=
  if t == "(" then [] :: st else
  match st with
  | xs :: r =>
    if t == ")" then (match r with | ys :: r => (appL xs.reverse :: ys) :: r | [] => [xs]) else (word f t :: xs) :: r
  | [] => []
/-- A term from its words. -/
def term (f : Lean.Name → Lean.Name) (s : String) : Stx := match (words s).foldl (push f) [[]] with | xs :: _ => appL xs.reverse | [] => hole
def seqT (l : List Tac) : Tac := fun f => ta "paren" [tok "(", steps (l.map fun t => t f), tok ")"]
def orT (l : List Tac) : Tac := fun f => ta "first" [tok "first", nul (l.map fun t => nd "group" [tok "|", steps [t f]])]
def sq (l : List Tac) : Lean.MacroM Stx := fun c s => .ok (seqT l (fun n => Lean.addMacroScope c.quotContext n c.currMacroScope)) s
def one (k s : String) : Tac := fun _ => nd k [tok s]
def over (k s : String) (t : Tac) : Tac := fun f => ta k [tok s, steps [t f]]
def dk (t : Tac) : Tac := fun f => nd "PySem.W.tacticK_dflt_" [tok "k_dflt", t f]
def rd (t : Tac) : Tac := over "withReducible" "with_reducible" t
def wu (t : Tac) : Tac := over "withUnfoldingAll" "with_unfolding_all" t
def tr (t : Tac) : Tac := over "tacticTry_" "try" t
def ex (s : String) : Tac := fun f => ta "exact" [tok "exact", term f s]
def ap (s : String) : Tac := fun f => ta "apply" [tok "apply", term f s]
def sb (s : String) : Tac := fun f => ta "subst" [tok "subst", nul [idn (f s.toName)]]
def rv (s : String) : Tac := fun f => ta "revert" [tok "revert", nul [idn (f s.toName)]]
def cs (s : String) : Tac := fun f => ta "cases" [tok "cases", nul [ta "elimTarget" [nul [], idn (f s.toName)]], nul [], nul []]
def intros (s : String) : Tac := fun f => ta "intro" [tok "intro", nul ((words s).map fun x => idn (f x.toName))]
def asm : Tac := fun _ => ta "assumption" [tok "assumption"]
def omg : Tac := fun _ => ta "omega" [tok "omega", ta "optConfig" [nul []]]
def dcd : Tac := fun _ => ta "decide" [tok "decide", ta "optConfig" [nul []]]
def byRfl : Tac := fun _ => ta "tacticRfl" [tok "rfl"]
def kw (s : String) : Tac := one ("PySem.W.tacticK_" ++ s) ("k_" ++ s)
def rfn (t : Stx) : Stx := ta "refine'" [tok "refine'", t]
def rf (s : String) : Tac := fun f => rfn (term f s)
def par (l : List Stx) : Stx := ta "paren" [tok "(", steps l, tok ")"]
def caseS (x : Stx) (t : Stx) : Stx := ta "case" [tok "case", nul [ta "caseArg" [nd "Lean.binderIdent" [x], nul []]], tok "=>", steps [t]]
/-- Through the rule whose words are given: its further arguments are holes, filled one by one. -/
def thru (g : String) (ts : List Tac) : Tac := fun f =>
  let xs := ts.zipIdx.map fun t => (idn (f (.num `zt t.2)), t.1 f)
  par (rfn (appL ((words g).map (word f) ++ xs.map fun x => hole? x.1)) :: xs.map fun x => caseS x.1 x.2)
/-- The tactic of a letter. -/
def byLetter (c : Char) : Tac := match c with
  | 'a' => kw "asm"
  | 'm' => kw "mem"
  | 'h' => asm
  | 'H' => rd asm
  | 'r' => byRfl
  | 'R' => dk byRfl
  | 'w' => wu byRfl
  | 'W' => seqT [intros "w", wu byRfl]
  | 'd' => dcd
  | 'D' => one "PySem.W.tacticKtr_room" "ktr_room"
  | 'u' => one "PySem.W.tacticKtr_units" "ktr_units"
  | 'v' => orT [one "PyProof.Rows.tacticUnits_room" "units_room", dcd, one "PySem.W.tacticKtr_units" "ktr_units"]
  | 'U' => kw "upd"
  | 'V' => kw "updF"
  | 'o' => omg
  | 'e' => orT [ex "rfl", kw "asm"]
  | 'f' => orT [byRfl, asm]
  | 'g' => orT [ex "rfl", asm]
  | 'i' => orT [dcd, rd asm, asm, omg]
  | 'j' => orT [asm, omg]
  | 'k' => kw "all"
  | 'p' => one "PySem.W.tacticKmk_pure" "kmk_pure"
  | 'S' => one "PySem.W.tacticKmk_size" "kmk_size"
  | 'M' => seqT [intros "q hq", kw "mem"]
  | 'c' => ex "List.cons_ne_nil _ _"
  | 'n' => ex "Nat.le_of_ble_eq_true rfl"
  | 'z' => orT [thru "szK" [rd asm], thru "szo" [omg]]
  | 's' => orT [omg, thru "szc" [omg], thru "szc2" [omg]]
  | 'Z' => orT [ex "Nat.zero_le _", thru "szo" [ex "Nat.le_of_ble_eq_true rfl"]]
  | 'y' => thru "szAdd" [orT [asm, omg]]
  | 'B' => thru "Top.nolimit" [kw "asm"]
  | 'L' => orT [asm, thru "LvIn.up" [asm, seqT [intros "p hp", kw "mem"]]]
  | 'T' => orT [asm, thru "TrIn.up" [asm, seqT [intros "p hp", kw "mem"]]]
  | 'X' => thru "FxIn.mono sub2" [asm]
  | 'Y' => orT [kw "all", thru "allNe_sub" [asm, kw "all"]]
  | _ => asm
/-- The arguments of a rule: `_` goes on, `.` is left to the unifier, `$` is the next of the words given, a letter is a hole with its tactic. -/
def args (f : Lean.Name → Lean.Name) (p : Nat) (s : String) (ds : List String) : List Stx × List (Nat × Stx) :=
  let r := s.toList.foldl (init := ((0, ds), ([], []))) fun (x : (Nat × List String) × List Stx × List (Nat × Stx)) c =>
    let i := x.1.1
    if c == '_' then ((i + 1, x.1.2), hole? (tok "_") :: x.2.1, x.2.2) else
    if c == '.' then ((i + 1, x.1.2), hole :: x.2.1, x.2.2) else
    if c == '$' then ((i + 1, x.1.2.tail), word f (x.1.2.headD "_") :: x.2.1, x.2.2) else
    let n := idn (f (.num `zq (p + i)))
    ((i + 1, x.1.2), hole? n :: x.2.1, (i, caseS n (byLetter c f)) :: x.2.2)
  (r.2.1.reverse, r.2.2.reverse)
def pickF (on : Bool) (l : List Nat) (b : List (Nat × Stx)) : List Stx := (b.filter fun x => l.contains x.1 == on).map (·.2)
/-- The rule `g` with its holes filled in order, those of `last` at the end. -/
def ru (g s : String) (ds : String := "") (last : List Nat := []) : Tac := fun f =>
  let r := args f 0 s (words ds)
  par (rfn (app (named g) r.1) :: (pickF false last r.2 ++ pickF true last r.2))
/-- The same, those of `first` filled at once, the others after the rule stands. -/
def ruI (g s : String) (first : List Nat) (w : Tac → Tac) : Tac := fun f =>
  let r := args f 0 s []
  par (w (fun _ => par (rfn (app (named g) r.1) :: pickF true first r.2)) f :: pickF false first r.2)
/-- A proved call: `u` (`Calls.use`, `CallsE.use`) over the contract `g`; the holes of `first` are filled ahead. -/
def cl (u g s : String) (ds : String := "") (first : List Nat := []) : Tac := fun f =>
  let r := args f 0 s (words ds)
  let k := args f 50 ("aahaaeDu_" ++ if u == "CallsE.use" then "_" else "") []
  par (rfn (app (named u) (app (named g) r.1 :: k.1)) :: (pickF true first r.2 ++ k.2.map (·.2) ++ pickF false first r.2))
def orR (gs s : String) : List Tac := (words gs).map fun g => ru g s
def kh : Tac := kw "here"
def shw (s : String) : Tac := rd fun f => ta "show" [tok "show", term f s]
/-- The goal's form, looked at before the rule. -/
def atT (s : String) : Tac := shw ("wpAny _ _ ( " ++ s ++ " ) _ _ _")
def atCall (s : String) : Tac := atT ("call ( Value.ref " ++ s ++ " ) _ _")
def atSub (s : String) : Tac := atT ("subscriptTail _ _ ( Value.ref _ ) ( " ++ s ++ " )")
def atIs (s : String) : Tac := atT ("call ( Value.builtin _ ) ( List.cons ( Value.ref _ ) ( List.cons ( Value.type " ++ s ++ " ) List.nil ) )")
def atMeth (s : String) : Tac := atT ("getMethod ( Value.ref _ ) ( PySem.Str.ofString " ++ s ++ " ) _")
def stop : Tac := rf "Stop.mk ?_"
def ren (t x : String) : Tac := fun f => ta "rename" [tok "rename", term f t, tok "=>", idn (f x.toName)]
/-- Stops once: the mark is used up. -/
def stop1 (m : String) : Tac := seqT [rd (ren m "hms"), fun f => ta "clear" [tok "clear", nul [idn (f `hms)]], stop]
def dsm (ns : List String) (at? : List Stx) : Stx := ta "dsimp" [tok "dsimp", ta "optConfig" [nul []], nul [], nul [tok "only"], nul (if ns.isEmpty then [] else [tok "[", nul ((ns.map fun n => ta "simpLemma" [nul [], nul [], named n]).intersperse (tok ",")), tok "]"]), nul at?]
/-- What follows a rule: the names, then by letters the tidying. -/
def tl (ns fl : String) : Tac := seqT (intros ns :: fl.toList.map fun c => match c with
    | 'N' => tr fun f => dsm [] [ta "location" [tok "at", ta "locationHyp" [nul [idn (f (.mkSimple "N'"))]]]]
    | 'd' => tr fun _ => dsm [] []
    | 'l' => tr fun f => nd "PySem.W.tacticK_lt_" [tok "k_lt", idn (f `l1)]
    | _ => tr (kw "sweep"))
/-- After a call whose end is `r = a ∧ led' = l` (rule `q`), the names `x` taken on the way. -/
def tl2 (q x : String) (mid : List Tac) : Tac :=
  seqT ([intros "r9 l9 h' tk' F' N' P9", rv "N'", ap (q ++ " %P9"), intros x] ++ mid ++ [tr fun _ => dsm [] [], tr (kw "sweep")])
/-- A raise of the call's comes first, then its end. -/
def tlE (t : Tac) : Tac := fun f => ta "allGoals" [tok "all_goals", steps [orT [seqT [intros "e9 g9 h9 tk9 F9 U9 R9 P9", rd (ren "RaisedN _ _ _ _ _ _" "R9")], t] f]]
def newTup : List Tac := [kh, dk (ru "kup_newTuple" "aa_S"), tl "D' h' F' N' l1" "ls"]
def newLst : List Tac := [kh, dk (seqT [ru "newList_K" "aa_Z" "" [0, 1], kw "whole"]), tl "l' h' F' N' l1" "ls"]
abbrev Led := List (Addr × Obj)
theorem szo {n : Nat} (h : n ≤ 16777216) : n ≤ sizeLine := by rw [sizeLine_eq]; exact h
theorem szK {n : Nat} (h : n ≤ 1000) : n ≤ sizeLine := szo (Nat.le_trans h (by decide))
theorem szAdd {a b : Array Value} (h : a.size + b.size ≤ 16777216) : a.toList.length + b.toList.length ≤ sizeLine := by rw [sizeLine_eq, Array.length_toList, Array.length_toList]; exact h
theorem szc {x : Value} {l : List Value} {n : Nat} (h : l.length + 1 ≤ n) : (x :: l).length ≤ n := h
theorem szc2 {x y : Value} {l : List Value} {n : Nat} (h : l.length + 1 + 1 ≤ n) : (x :: y :: l).length ≤ n := h
abbrev PR : Program := PySem.Challenge.rw_og0006_01.row.prog
/-- A call of the top's def at `f` upon the ledger `led`: it comes back with `Post`. -/
noncomputable def Calls (w : World) (f : Addr) (vs : List Value) (size : Nat) (led : Led) (Post : Value → Led → Prop) : Prop :=
  ∀ (p : Program) (loose : List Str) (mean : ExcName → Option Value) (mg mb : Str → Option Value) (dp un : Nat) (gd : Option (List Code)) (cn : Str) (cs : Scope) (a : Addr) (ccd : Value) (cl : List (Str × Addr)) (outer : List Env) (A₀ : Around) (base h₀ : Heap) (L : Addr) (m : Str → Option Value) (s : Shared)
    (Q E : Value → Shared → Prop),
    Below A₀ base outer h₀ → Fr h₀ L s.heap m → (K39 w.params).In h₀ → News h₀ L s.heap led → Top p loose mean mg mb h₀ → cs.kind = .function → dp + size < 900 → un + 8 * size < 9000 →
    (∀ r led' h' tk', Fr h₀ L h' m → News h₀ L h' led' → Post r led' → Q r { s with heap := h', toks := tk' }) →
    wpAny (model PySem.Challenge.rw_og0006_01.row.prog w) (ktrTop dp un gd cn cs L a ccd cl outer) (call (.ref f) vs) Q E s
theorem Calls.use {w : World} {f : Addr} {vs : List Value} {size : Nat} {led : Led} {Post : Value → Led → Prop} {p : Program} {loose : List Str} {mean : ExcName → Option Value} {mg mb : Str → Option Value} {dp un : Nat} {gd : Option (List Code)} {cn : Str} {cs : Scope} {a : Addr} {ccd : Value} {cl : List (Str × Addr)} {outer : List Env} {A₀ : Around} {base h₀ : Heap} {L : Addr} {m : Str → Option Value} {s : Shared}
    {Q E : Value → Shared → Prop} (C : Calls w f vs size led Post)
    (B : Below A₀ base outer h₀) (F : Fr h₀ L s.heap m) (X : (K39 w.params).In h₀) (N : News h₀ L s.heap led) (T : Top p loose mean mg mb h₀) (hk : cs.kind = .function) (hdp : dp + size < 900) (hun : un + 8 * size < 9000)
    (ret : ∀ r led' h' tk', Fr h₀ L h' m → News h₀ L h' led' → Post r led' → Q r { s with heap := h', toks := tk' }) :
    wpAny (model PySem.Challenge.rw_og0006_01.row.prog w) (ktrTop dp un gd cn cs L a ccd cl outer) (call (.ref f) vs) Q E s :=
  C p loose mean mg mb dp un gd cn cs a ccd cl outer A₀ base h₀ L m s Q E B F X N T hk hdp hun ret
theorem mulOk_small {a b : Int} (h1 : -2^64 < a) (h2 : a < 2^64) (h3 : -2^64 < b) (h4 : b < 2^64) : IntMulOk a b :=
  mulOk_of_bits (m := 64) (n := 64) (intBits_le_64 (by omega) (by omega)) (intBits_le_64 (by omega) (by omega)) (by decide)
theorem fmod_lt' {a b : Int} (h : 0 < b) : a.fmod b < b := Int.fmod_lt_of_pos a h
theorem fmod_ge' {a b : Int} (h : 0 < b) : 0 ≤ a.fmod b := Int.fmod_nonneg_of_pos a h

theorem News.sub {h₀ h : Heap} {L : Addr} {l l' : Led} (N : News h₀ L h l) (hs : ∀ p ∈ l', p ∈ l) : News h₀ L h l' := fun p hp => N p (hs p hp)
theorem subC {x : Addr × Obj} {R S : Led} (hx : x ∈ S) (h : ∀ p ∈ R, p ∈ S) : ∀ p ∈ x :: R, p ∈ S := List.forall_mem_cons.mpr ⟨hx, h⟩
theorem News.swap5 {h₀ h : Heap} {L : Addr} {a b c d e f : Addr × Obj} {r : Led} (N : News h₀ L h (a :: b :: c :: d :: e :: f :: r)) : News h₀ L h (e :: f :: a :: b :: c :: d :: r) := News.sub N (subC (.tail _ (.tail _ (.tail _ (.tail _ (.head _))))) (subC (.tail _ (.tail _ (.tail _ (.tail _ (.tail _ (.head _)))))) (subC (.head _) (subC (.tail _ (.head _)) (subC (.tail _ (.tail _ (.head _))) (subC (.tail _ (.tail _ (.tail _ (.head _)))) fun _ hp => .tail _ (.tail _ (.tail _ (.tail _ (.tail _ (.tail _ hp)))))))))))
theorem News.swap2 {h₀ h : Heap} {L : Addr} {a b : Addr × Obj} {r : Led} (N : News h₀ L h (a :: b :: r)) : News h₀ L h (b :: a :: r) := News.sub N (subC (.tail _ (.head _)) (subC (.head _) fun _ hp => .tail _ (.tail _ hp)))
/-- A mark at which the walk stops. -/
noncomputable def Stop (P : Prop) : Prop := P
theorem Stop.mk {P : Prop} (h : Stop P) : P := h
theorem mem_up {R R' : Led} (h : ∀ p ∈ R, p ∈ R') {x : Addr × Obj} (hm : x ∈ R) : x ∈ R' := h x hm
local macro_rules | `(tactic| k_mem) => `(tactic| first | assumption | exact List.mem_cons_self | (refine List.mem_cons_of_mem _ ?_; k_mem) | (refine' mem_up ?h ?_; (case h => assumption); k_mem))
local macro_rules | `(tactic| k_all) => `(tactic| with_reducible assumption)
theorem rm0 {d n : Nat} (h : d + n < 900) : d < 900 := by omega
theorem rm1 {d n k : Nat} (h : d + n < 900) (e : Nat.ble k n = true) : d + k < 900 := by have := Nat.le_of_ble_eq_true e; omega
theorem rm2 {d n j k : Nat} (h : d + n < 900) (e : Nat.ble (j + k) n = true) : d + j + k < 900 := by have := Nat.le_of_ble_eq_true e; omega
theorem rm3 {d n i j k : Nat} (h : d + n < 900) (e : Nat.ble (i + j + k) n = true) : d + i + j + k < 900 := by have := Nat.le_of_ble_eq_true e; omega
theorem rl {d : Nat} (h : d < 900) : d < recursionLimit := Nat.lt_of_lt_of_le h (by decide)
theorem um1 {d n k : Nat} (h : d + n < 9000) (e : Nat.ble k n = true) : d + k < 9000 := by have := Nat.le_of_ble_eq_true e; omega
theorem um2 {d n j k : Nat} (h : d + n < 9000) (e : Nat.ble (j + k) n = true) : d + j + k < 9000 := by have := Nat.le_of_ble_eq_true e; omega
theorem um3 {d n i j k : Nat} (h : d + n < 9000) (e : Nat.ble (i + j + k) n = true) : d + i + j + k < 9000 := by have := Nat.le_of_ble_eq_true e; omega
theorem ul {d : Nat} (h : d < 9000) : d < cLine := Nat.lt_of_lt_of_le h (by decide)
def ds9 : List String := words "depth_under_make depth_under_kw depth_in1 depth_deeper depth_caller units_in1 units_deeper Around.mark_units units_caller ktrTop"
local macro_rules | `(tactic| ktr_room) => sq [tr (fun _ => dsm ds9 []), orT [dcd, seqT [tr (rf "rl ?_"), orT (rd asm :: (words "rm1 rm2 rm3").map (ru · "Hd") ++ [ru "rm0" "H"])], omg]]
local macro_rules | `(tactic| ktr_units) => sq [tr (fun _ => dsm ds9 []), orT [dcd, seqT [tr (rf "ul ?_"), orT (rd asm :: (words "um1 um2 um3").map (ru · "Hd"))], omg]]
theorem ltL {a b : Nat} {q : Prop} (h : a < b ∧ q) : a < b := h.1
theorem ltL2 {a b : Nat} {p q : Prop} (h : p ∧ a < b ∧ q) : a < b := h.2.1
theorem ltL3 {a b : Nat} {p p2 q : Prop} (h : p ∧ p2 ∧ a < b ∧ q) : a < b := h.2.2.1
theorem ltL4 {a b : Nat} {p p2 p3 q : Prop} (h : p ∧ p2 ∧ p3 ∧ a < b ∧ q) : a < b := h.2.2.2.1
theorem ltL5 {a b : Nat} {p p2 p3 p4 q : Prop} (h : p ∧ p2 ∧ p3 ∧ p4 ∧ a < b ∧ q) : a < b := h.2.2.2.2.1
theorem ne1 {n : Nat} : n ≠ n + 1 := Nat.ne_of_lt (Nat.lt_succ_self n)
theorem ne2 {n : Nat} : n ≠ n + 1 + 1 := by omega
theorem ne1s {n : Nat} : n + 1 ≠ n := Ne.symm ne1
theorem ne2s {n : Nat} : n + 1 + 1 ≠ n := Ne.symm ne2
theorem neL {a b : Nat} {q : Prop} (h : a < b ∧ q) : a ≠ b := Nat.ne_of_lt h.1
theorem neG {a b : Nat} {q : Prop} (h : b < a ∧ q) : a ≠ b := Nat.ne_of_gt h.1
theorem neL2 {a b : Nat} {p q : Prop} (h : p ∧ a < b ∧ q) : a ≠ b := Nat.ne_of_lt h.2.1
theorem neG2 {a b : Nat} {p q : Prop} (h : p ∧ b < a ∧ q) : a ≠ b := Nat.ne_of_gt h.2.1
theorem neL3 {a b : Nat} {p p2 q : Prop} (h : p ∧ p2 ∧ a < b ∧ q) : a ≠ b := Nat.ne_of_lt h.2.2.1
theorem neG3 {a b : Nat} {p p2 q : Prop} (h : p ∧ p2 ∧ b < a ∧ q) : a ≠ b := Nat.ne_of_gt h.2.2.1
theorem neL4 {a b : Nat} {p p2 p3 q : Prop} (h : p ∧ p2 ∧ p3 ∧ a < b ∧ q) : a ≠ b := Nat.ne_of_lt h.2.2.2.1
theorem neG4 {a b : Nat} {p p2 p3 q : Prop} (h : p ∧ p2 ∧ p3 ∧ b < a ∧ q) : a ≠ b := Nat.ne_of_gt h.2.2.2.1
local macro_rules | `(tactic| k_ne) => sq [rf "neN ?_", tr (fun _ => dsm [] []), orT (rd asm :: orR "Ne.symm Nat.ne_of_lt Nat.ne_of_gt neL neG neL2 neG2 neL3 neG3 neL4 neG4" "H" ++ (words "ne1 ne1s ne2 ne2s").map (rd <| ex ·) ++ [omg])]
local macro_rules | `(tactic| k_ne) => sq [shw "@LT.lt Nat _ _ _", tr (fun _ => dsm [] []), orT (rd asm :: orR "ltL ltL2 ltL3 ltL4 ltL5" "H" ++ [rd (ex "Nat.lt_succ_self _")])]
theorem ex1_1 {α : Sort _} {A : α → Prop} {C : Prop} (h : ∃ x, A x) (k : ∀ x, A x → C) : C := let ⟨x, h0⟩ := h; k x h0
theorem ex1_2 {α : Sort _} {A B : α → Prop} {C : Prop} (h : ∃ x, A x ∧ B x) (k : ∀ x, A x → B x → C) : C := let ⟨x, h0, h1⟩ := h; k x h0 h1
theorem ex1_4 {α : Sort _} {A B D E : α → Prop} {C : Prop} (h : ∃ x, A x ∧ B x ∧ D x ∧ E x) (k : ∀ x, A x → B x → D x → E x → C) : C := let ⟨x, h0, h1, h2, h3⟩ := h; k x h0 h1 h2 h3
theorem ex1_7 {α : Sort _} {A B D E F G H : α → Prop} {C : Prop} (h : ∃ x, A x ∧ B x ∧ D x ∧ E x ∧ F x ∧ G x ∧ H x) (k : ∀ x, A x → B x → D x → E x → F x → G x → H x → C) : C := let ⟨x, h0, h1, h2, h3, h4, h5, h6⟩ := h; k x h0 h1 h2 h3 h4 h5 h6
theorem ex2_4 {α β : Sort _} {A B D E : α → β → Prop} {C : Prop} (h : ∃ x y, A x y ∧ B x y ∧ D x y ∧ E x y) (k : ∀ x y, A x y → B x y → D x y → E x y → C) : C := let ⟨x, y, h0, h1, h2, h3⟩ := h; k x y h0 h1 h2 h3
theorem eq2_use {r a : Value} {led' l : Led} {C : Value → Led → Prop} (h : r = a ∧ led' = l) (k : C a l) : C r led' := by rw [h.1, h.2]; exact k
theorem eq3_use {P : Prop} {r a : Value} {led' l : Led} {C : Value → Led → Prop} (h : P ∧ r = a ∧ led' = l) (k : P → C a l) : C r led' := by rw [h.2.1, h.2.2]; exact k h.1
theorem eq1_use {P : Prop} {r a : Value} {C : Value → Prop} (h : r = a ∧ P) (k : P → C a) : C r := by rw [h.1]; exact k h.2
theorem ex3_6 {α β γ : Sort _} {A B D E F G : α → β → γ → Prop} {C : Prop} (h : ∃ x y z, A x y z ∧ B x y z ∧ D x y z ∧ E x y z ∧ F x y z ∧ G x y z) (k : ∀ x y z, A x y z → B x y z → D x y z → E x y z → F x y z → G x y z → C) : C := let ⟨x, y, z, h0, h1, h2, h3, h4, h5⟩ := h; k x y z h0 h1 h2 h3 h4 h5
theorem letA {M : Model} {A : Around} {α : Type} {x : Sem α} {Q : α → Shared → Prop} {E : Value → Shared → Prop} {s : Shared} (h : let A' := A; wpAny M A' x Q E s) : wpAny M A x Q E s := h
noncomputable def MarkC (_a : Nat) : Prop := True
theorem stopC {M : Model} {A : Around} {vs : List Value} {kw : List (Str × Value)} {Q E : Value → Shared → Prop} {s : Shared} {a : Nat} (_h : MarkC a) (k : Stop (wpAny M A (call (.ref a) vs kw) Q E s)) : wpAny M A (call (.ref a) vs kw) Q E s := k
local macro_rules | `(tactic| walk_at "call ref") => sq [rd (ru "stopC" "H_")]
abbrev Loc := Str → Option Value
/-- The end of a turn of a for loop whose iterator is `I`. -/
noncomputable def TurnPost (h₀ : Heap) (L I : Addr) (oI : Obj) (J : Loc → Led → Prop) (s : Shared) (Q : Flow → Shared → Prop) (f : Flow) (s' : Shared) : Prop :=
  match f with
  | .ret v => Q (.ret v) s'
  | .brk => Q .next s'
  | _ => ∃ h' tk' m₂ news₂, s' = { s with heap := h', toks := tk' } ∧ Fr h₀ L h' m₂ ∧ News h₀ L h' ((I, oI) :: news₂) ∧ (∀ p ∈ news₂, p.1 ≠ I) ∧ J m₂ news₂
section
variable {prog : Program} {w : World} {A : Around} {E : Value → Shared → Prop} {s : Shared} {env : Env} {h₀ : Heap} {x : Str} {body : List Stmt} {Q : Flow → Shared → Prop}
theorem loop_walks {I : Addr} {fp : List Addr} {n : Nat} {P : Nat → Value → Prop} {St : Nat → Heap → Prop} {m₀ : Loc} {news : Led} (J : Nat → Loc → Led → Prop)
    (W : Walks prog w A I fp [I] n P St) (hfp : env.locals ∉ fp) (hI : h₀.get? I = none) (hnI : ∀ p ∈ news, p.1 ≠ I) (hst : St 0 s.heap) (hstI : ∀ i h, St i h → ∃ o, h.get? I = some o)
    (F : Fr h₀ env.locals s.heap m₀) (N : News h₀ env.locals s.heap news) (hj : J 0 m₀ news)
    (kl : Led) (hk : ∀ i m news, J i m news → ∀ p ∈ kl, p ∈ news) (hfk : ∀ b ∈ fp, b ≠ I → ∃ o, (b, o) ∈ kl)
    (turn : ∀ i v m₁ news₁ h tk oI, i < n → P i v → J i m₁ news₁ → (∀ p ∈ news₁, p.1 ≠ I) → Fr h₀ env.locals h (fun y => if y = x then some v else m₁ y) → News h₀ env.locals h ((I, oI) :: news₁) →
      wpAny (model prog w) A (execs body env) (TurnPost h₀ env.locals I oI (J (i + 1)) s Q) E { s with heap := h, toks := tk })
    (done : ∀ m₁ news₁ h tk, J n m₁ news₁ → Fr h₀ env.locals h m₁ → News h₀ env.locals h news₁ → Q .next { s with heap := h, toks := tk }) :
    LoopAtV prog w A h₀ env x body Q E (.ref I) s := by
  refine ⟨I, fp, [I], n, P, St, m₀, news, J, rfl, W, hfp, ?_, ?_, hst, F, N, hj, ?_, ?_⟩
  · intro b hb; rw [List.mem_singleton.mp hb]; exact hI
  · intro p hp hb; exact hnI p hp (List.mem_singleton.mp hb)
  · rintro i v m₁ news₁ s₁ own ⟨h, tk, rfl⟩ hin hP hJ hoff hown hown2 hown3 hst' F₁ N₁
    have hnI₁ : ∀ p ∈ news₁, p.1 ≠ I := fun p hp e => hoff p hp (List.mem_singleton.mpr e)
    obtain ⟨oI, hoI⟩ := hstI _ _ hst'
    have hIfp : I ∈ fp := W.sub I (List.mem_singleton.mpr rfl)
    have hmem : (I, oI) ∈ own := hown3 I hIfp hI oI hoI
    have N₂ : News h₀ env.locals h ((I, oI) :: news₁) := by
      intro p hp
      rcases List.mem_cons.mp hp with rfl | hp
      · exact N₁ _ (List.mem_append.mpr (.inl hmem))
      · exact N₁ _ (List.mem_append.mpr (.inr hp))
    have fin : ∀ s', (∃ h' tk' m₂ news₂, s' = { s with heap := h', toks := tk' } ∧ Fr h₀ env.locals h' m₂ ∧ News h₀ env.locals h' ((I, oI) :: news₂) ∧ (∀ p ∈ news₂, p.1 ≠ I) ∧ J (i + 1) m₂ news₂) →
        LoopStepU h₀ env.locals [I] own (J (i + 1)) { s with heap := h, toks := tk } .next s' := by
      rintro s' ⟨h', tk', m₂, news₂, rfl, F', N', hn, hJ'⟩
      refine ⟨rfl, h', tk', m₂, news₂, rfl, F', ?_, fun p hp hq => hn p hp (List.mem_singleton.mp hq), hJ'⟩
      intro p hp
      rcases List.mem_append.mp hp with hp | hp
      · by_cases e : p.1 = I
        · have e2 := hown2 p hp
          rw [e, hoI] at e2
          have e3 : p = (I, oI) := Prod.ext e (Option.some.inj e2).symm
          rw [e3]
          exact N' _ (.head _)
        · obtain ⟨o, ho⟩ := hfk p.1 (hown p hp) e
          have h9 := (N₁ _ (List.mem_append.mpr (.inr (hk _ _ _ hJ _ ho)))).1
          have e2 := hown2 p hp
          rw [show h.get? p.1 = some o from h9] at e2
          have e3 : p = (p.1, o) := Prod.ext rfl (Option.some.inj e2).symm
          rw [e3]
          exact N' _ (.tail _ (hk _ _ _ hJ' _ ho))
      · exact N' _ (.tail _ hp)
    refine wpAny_mono (turn i v m₁ news₁ h tk oI hin hP hJ hnI₁ F₁ N₂) (fun f s₂ p => ?_) fun _ _ e => e
    cases f with
    | ret v => exact .ret p
    | brk => exact .brk p
    | next => exact .next (fin _ p)
    | cont => exact .cont (fin _ p)
  · rintro h' tk m' news' F' N' _ hJ
    exact done m' news' h' tk hJ F' N'
theorem listOf_isList {h : Heap} {l : Addr} {vs : Array Value} {n : Nat} (e : h.get? l = some (listOf vs n)) : h.IsList l vs := ⟨_, e, rfl, n, rfl⟩
theorem iter_list {l : Addr} {vs : Array Value} {n : Nat} {m₀ : Loc} {news : Led} (J : Loc → Addr × Obj → Nat → Loc → Led → Prop) (hh : A.handled = none)
    (F : Fr h₀ env.locals s.heap m₀) (N : News h₀ env.locals s.heap news) (hl : (l, listOf vs n) ∈ news) (hj : J m₀ (l, listOf vs n) 0 m₀ news)
    (hk : ∀ i m news, J m₀ (l, listOf vs n) i m news → (l, listOf vs n) ∈ news)
    (turn : ∀ (I : Nat) i v m₁ news₁ h tk oI, vs[i]? = some v → J m₀ (l, listOf vs n) i m₁ news₁ → (∀ p ∈ news₁, p.1 ≠ I) → Fr h₀ env.locals h (fun y => if y = x then some v else m₁ y) → News h₀ env.locals h ((I, oI) :: news₁) →
      wpAny (model prog w) A (execs body env) (TurnPost h₀ env.locals I oI (J m₀ (l, listOf vs n) (i + 1)) s Q) E { s with heap := h, toks := tk })
    (done : ∀ m₁ news₁ h tk, J m₀ (l, listOf vs n) vs.size m₁ news₁ → Fr h₀ env.locals h m₁ → News h₀ env.locals h news₁ → Q .next { s with heap := h, toks := tk }) :
    wpAny (model prog w) A (pyIter (.ref l)) (fun it s₂ => LoopAtV prog w A h₀ env x body Q E it s₂) E s := by
  have hls : s.heap.IsList l vs := listOf_isList (N _ hl).1
  have hlt : l < s.heap.objs.size := Heap.lt_size (N _ hl).1
  refine wpAny_pyIter_list hls ?_
  have W := Walks.list (prog := prog) (w := w) hh s.heap.objs.size l (Nat.ne_of_lt hlt) vs
  refine loop_walks (s := { s with heap := _ }) (J m₀ (l, listOf vs n)) W ?_ (next_is_new F) (fun p hp e => absurd (Heap.lt_size (N p hp).1) (by rw [e]; exact Nat.lt_irrefl _))
    ⟨⟨_, Heap.get?_push_size _ rfl, rfl, rfl⟩, hls.push _⟩ (fun i h st => let ⟨⟨o, ho, _⟩, _⟩ := st; ⟨o, ho⟩) (F.push _) (fun p hp => ⟨Heap.get?_push_of_some _ (N p hp).1, (N p hp).2⟩) hj [(l, listOf vs n)] ?_ ?_ ?_ done
  · intro hm
    rcases List.mem_cons.mp hm with e | hm
    · exact absurd F.ns.lt (e ▸ Nat.lt_irrefl _)
    · exact (N _ hl).2.1 (List.mem_singleton.mp hm).symm
  · intro i m nw hJ p hp
    rw [List.mem_singleton.mp hp]; exact hk i m nw hJ
  · intro b hb hne
    rcases List.mem_cons.mp hb with e | hb
    · exact absurd e hne
    · exact ⟨_, by rw [List.mem_singleton.mp hb]; exact .head _⟩
  · intro i v m₁ news₁ h tk oI _ hv hJ hn F' N'
    exact turn _ i v m₁ news₁ h tk oI hv hJ hn F' N'
end

theorem while_J {prog : Program} {w : World} {A : Around} {E : Value → Shared → Prop} {Q : Flow → Shared → Prop} {s : Shared} {env : Env} {h₀ : Heap} {L : Addr} {test : Expr} {body : List Stmt} {pos : Pos} {m₀ : Loc} {news : Led} (J : Loc → Nat → Loc → Led → Prop) (n₀ : Nat)
    (F : Fr h₀ L s.heap m₀) (N : News h₀ L s.heap news) (hE : PassesOwn (model prog w) A env E) (hJ : J m₀ n₀ m₀ news)
    (turn : ∀ n m₁ news₁ h₁ tk₁, Fr h₀ L h₁ m₁ → News h₀ L h₁ news₁ → J m₀ n m₁ news₁ →
      wpAny (model prog w) A (isTrue test env (eval test env)) (fun b s₂ =>
        if b = true then wpAny (model prog w) A (execs body env) (WhileStep2 h₀ L s (J m₀) Q n) E s₂ else Q .next s₂) E { s with heap := h₁, toks := tk₁ }) :
    wpAny (model prog w) A (exec (.While test body [] pos) env) Q E s := While_inv2 (J m₀) F N hJ turn hE
theorem WhileStep2.go {h₀ h' : Heap} {L : Addr} {s : Shared} {J : Nat → Loc → Led → Prop} {Q : Flow → Shared → Prop} {n n' tk : Nat} {m₂ : Loc} {news₂ : Led} (F : Fr h₀ L h' m₂) (N : News h₀ L h' news₂) (hn : n' < n) (hJ : J n' m₂ news₂) :
    WhileStep2 h₀ L s J Q n .next { s with heap := h', toks := tk } := ⟨h', tk, m₂, news₂, n', rfl, F, N, hn, hJ⟩
local macro_rules | `(tactic| walk_at "call builtin:list.append") => sq [kh, dk (ru "append_K" "aaU_z"), tl "h' F' N'" "Ns"]
theorem loc_in {names : List Str} {m m₀ : Loc} (h : ∀ y, names.contains y = false → m y = m₀ y) : m = fun y => if names.contains y then m y else m₀ y := by
  funext y
  cases e : names.contains y with
  | true => simp
  | false => simp [h y e]
def forT : Tac := seqT [ren "Fr _ _ _ _" "lF'", wu (ru "For_invVF" "$rr_" "%lF'")]
local macro_rules | `(tactic| walk_at "exec For Name Name cons nil") => sq [forT]
local macro_rules | `(tactic| walk_at "exec For Name Call cons nil") => sq [forT]
theorem getD_1 {x y : Int} : [x, y].getD (Int.toNat 1) 0 = y := rfl
local macro_rules | `(tactic| mul_fits) => `(tactic| (refine mulOk_small ?_ ?_ ?_ ?_ <;> (simp only [getD_1] <;> first | omega | (refine Int.lt_of_lt_of_le ?_ (fmod_ge' (by decide)); decide) | (refine Int.lt_trans (fmod_lt' (by decide)) ?_; decide))))
noncomputable def takePost (src n : Nat) (top : Int) (R : Led) (r : Value) (led' : Led) : Prop :=
  ∃ d td x' y' tx' ty', r = .int d td ∧ 0 ≤ d ∧ d < top ∧ 0 ≤ y' ∧ y' < 2^40 ∧ led' = (src, listOf #[.int x' tx', .int y' ty'] n) :: R
set_option maxRecDepth 100000 in
set_option maxHeartbeats 8000000 in
theorem take_ok (w : World) (src n : Nat) (x y top : Int) (tx ty tt : Tok) (R : Led) (ht : 0 < top) (htt : top ≤ 16) (hR : ∀ p ∈ R, p.1 ≠ src) (hy0 : 0 ≤ y) (hy : y < 2^40) :
  Calls w 398 [.ref src, .int top tt] 1 ((src, listOf #[.int x tx, .int y ty] n) :: R) (takePost src n top R) := by
  unfold Calls
  intro p loose mean mg mb dp un gd cn cs a ccd cl outer A₀ base h₀ L m s Q E B F X N T hk hdp hun hret
  revert X; k_fill; intro X
  refine wpAny_call ?_
  k_dflt ktr_enter
  refine letA ?_
  intro Ak
  k_steps
  · exact hret _ _ _ _ (by assumption) (by assumption) ⟨_, _, _, _, _, _, rfl, fmod_ge' ht, fmod_lt' ht, hy0, hy, rfl⟩
  · refine hret _ _ _ _ (by assumption) (by assumption) ⟨_, _, _, _, _, _, rfl, fmod_ge' ht, fmod_lt' ht, ?_, ?_, rfl⟩
    · exact fmod_ge' (by decide)
    · exact Int.lt_trans (fmod_lt' (by decide)) (by decide)

noncomputable def SrcObj (o : Obj) : Prop := ∃ x y tx ty n, o = listOf #[.int x tx, .int y ty] n ∧ 0 ≤ y ∧ y < 2^40
theorem take_any (w : World) (src : Nat) (o : Obj) (top : Int) (tt : Tok) (led : Led) (G : Obj → Led) (hS : SrcObj o) (U : UpdF src o led G) (ht : 0 < top) (htt : top ≤ 16) :
  Calls w 398 [.ref src, .int top tt] 1 led (fun r led' => ∃ d td o', r = .int d td ∧ 0 ≤ d ∧ d < top ∧ SrcObj o' ∧ led' = G o') := by
  obtain ⟨x, y, tx, ty, n, rfl, h0, h1⟩ := hS
  obtain ⟨pre, post, rfl, hg, a, b⟩ := U.split
  intro p loose mean mg mb dp un gd cn cs aa ccd cl outer A₀ base h₀ L m s Q E B F X N T hk hdp hun hret
  refine take_ok w src n x y top tx ty tt (pre ++ post) ht htt ?_ h0 h1 p loose mean mg mb dp un gd cn cs aa ccd cl outer A₀ base h₀ L m s Q E B F X (News.sub N ?_) T hk hdp hun ?_
  · intro q hq
    rcases List.mem_append.mp hq with hq | hq
    · exact a q hq
    · exact b q hq
  · intro q hq
    simp only [List.mem_cons, List.mem_append] at hq ⊢
    rcases hq with h | h | h <;> simp [h]
  · rintro r led' h' tk' F' N' ⟨d, td, x', y', tx', ty', rfl, hd0, hd1, hy0, hy1, rfl⟩
    refine hret _ _ _ _ F' (News.sub N' ?_) ⟨d, td, _, rfl, hd0, hd1, ⟨x', y', tx', ty', n, rfl, hy0, hy1⟩, rfl⟩
    rw [hg]
    intro q hq
    simp only [List.mem_cons, List.mem_append] at hq ⊢
    rcases hq with h | h | h <;> simp [h]
theorem take_use {w : World} {src : Nat} {o : Obj} {top : Int} {tt : Tok} {led : Led} {G : Obj → Led} {p : Program} {loose : List Str} {mean : ExcName → Option Value} {mg mb : Str → Option Value} {dp un : Nat} {gd : Option (List Code)} {cn : Str} {cs : Scope} {a : Addr} {ccd : Value} {cl : List (Str × Addr)} {outer : List Env} {A₀ : Around} {base h₀ : Heap} {L : Addr} {m : Str → Option Value} {s : Shared} {Q E : Value → Shared → Prop}
    (B : Below A₀ base outer h₀) (F : Fr h₀ L s.heap m) (X : (K39 w.params).In h₀) (N : News h₀ L s.heap led) (T : Top p loose mean mg mb h₀) (hk : cs.kind = .function) (hdp : dp + 1 < 900) (hun : un + 8 < 9000) (hS : SrcObj o) (U : UpdF src o led G) (ht : 0 < top) (htt : top ≤ 16)
    (ret : ∀ (d : Int) (td : Tok) (o' : Obj) h' tk', Fr h₀ L h' m → News h₀ L h' (G o') → 0 ≤ d → d < top → SrcObj o' → Q (.int d td) { s with heap := h', toks := tk' }) :
    wpAny (model PySem.Challenge.rw_og0006_01.row.prog w) (ktrTop dp un gd cn cs L a ccd cl outer) (call (.ref 398) [.ref src, .int top tt]) Q E s :=
  Calls.use (take_any w src o top tt led G hS U ht htt) B F X N T hk hdp hun fun _ _ h' tk' F' N' ⟨d, td, o', e1, a1, a2, a3, e2⟩ => by
    subst e1; subst e2; exact ret d td o' h' tk' F' N' a1 a2 a3
local macro_rules | `(tactic| walk_at "call ref") => sq [atCall "398", dk (seqT [ru "take_use" "aahaaeDuhVdd_" "" [8], kw "whole"]), tl "d' td' o' h' tk' F' N' hd0 hd1 hS'" "Nds"]
inductive Way | left | right | none
  deriving DecidableEq
structure Fx where
  way : Way
  level : Int
  deriving DecidableEq
inductive Op | plusC | timesC | eqC | colon | plus | minus
  deriving DecidableEq
noncomputable def Way.str : Way → Str
  | .left => Str.ofString "left"
  | .right => Str.ofString "right"
  | .none => Str.ofString "none"
noncomputable def Op.str : Op → Str
  | .plusC => Str.ofString ":+"
  | .timesC => Str.ofString ":*"
  | .eqC => Str.ofString ":="
  | .colon => Str.ofString ":"
  | .plus => Str.ofString "plus"
  | .minus => Str.ofString "-"
abbrev Lv := Op → Fx
structure LvOk (lv : Lv) : Prop where
  minus : lv .minus = ⟨.left, 6⟩
  colon : lv .colon = ⟨.right, 5⟩
  plus : lv .plus = ⟨.left, 9⟩
  lo : ∀ o, 5 ≤ (lv o).level
  hi : ∀ o, o ≠ .plus → (lv o).level ≤ 7
abbrev tupOf (vs : List Value) : Obj := { cls := .type "tuple", data := .seq vs.toArray }
/-- The pair (way, level) that stands under an operator's name. -/
noncomputable def LvEntry (R : Led) (kvs : List (Str × Value)) (o : Op) (f : Fx) : Prop :=
  ∃ a tw tl, valueAt kvs o.str = some (.ref a) ∧ (a, tupOf [.str f.way.str tw, .int f.level tl]) ∈ R
noncomputable def LvIn (R : Led) (kvs : List (Str × Value)) (lv : Lv) : Prop := ∀ o, LvEntry R kvs o (lv o)

theorem find_map_upd {K : Type} [DecidableEq K] (k k' : K) (v : Value) : ∀ kvs : List (K × Value),
    ((kvs.map fun kv => if kv.1 = k then (kv.1, v) else kv).find? fun kv => kv.1 = k').map (·.2) = if k' = k then ((kvs.find? fun kv => kv.1 = k').map fun _ => v) else (kvs.find? fun kv => kv.1 = k').map (·.2)
  | [] => by simp
  | a :: r => by
    have ih := find_map_upd k k' v r
    by_cases h1 : a.1 = k' <;> by_cases h2 : a.1 = k <;> by_cases h3 : k' = k <;> simp_all
theorem valueAt_stored {K : Type} [DecidableEq K] (kvs : List (K × Value)) (k k' : K) (v : Value) : valueAt (stored kvs k v) k' = if k' = k then some v else valueAt kvs k' := by
  unfold stored valueAt
  split
  · rename_i h
    rw [find_map_upd]
    split
    · rename_i h3; subst h3
      obtain ⟨x, hx, hk⟩ := List.any_eq_true.mp h
      have : (kvs.find? fun kv => decide (kv.1 = k')).isSome := by
        rw [List.find?_isSome]; exact ⟨x, hx, hk⟩
      obtain ⟨y, hy⟩ := Option.isSome_iff_exists.mp this
      rw [hy]; rfl
    · rfl
  · rename_i h
    rw [List.find?_append]
    by_cases h3 : k' = k
    · subst h3
      have : (kvs.find? fun kv => decide (kv.1 = k')) = none := by
        rw [List.find?_eq_none]; intro x hx hk; exact h (List.any_eq_true.mpr ⟨x, hx, hk⟩)
      rw [this]; simp
    · have : k ≠ k' := fun e => h3 e.symm
      simp [h3, this]
theorem Op.str_inj {a b : Op} (h : a.str = b.str) : a = b := by
  cases a <;> cases b <;> first | rfl | (exact absurd h (by decide))
theorem loc_twice {x : Str} {u v : Option Value} {m : Str → Option Value} : (fun y => if y = x then v else if y = x then u else m y) = fun y => if y = x then v else m y := by
  funext y; by_cases h : y = x <;> simp [h]
theorem loc_same {x : Str} {m : Str → Option Value} : m = fun y => if y = x then m x else m y := by
  funext y; by_cases h : y = x <;> simp [h]
theorem LvEntry.mono {R R' : Led} {kvs : List (Str × Value)} {o : Op} {f : Fx} (h : LvEntry R kvs o f) (hs : ∀ p ∈ R, p ∈ R') : LvEntry R' kvs o f := by
  obtain ⟨a, tw, tl, h1, h2⟩ := h
  exact ⟨a, tw, tl, h1, hs _ h2⟩
theorem LvEntry.store_ne {R : Led} {kvs : List (Str × Value)} {o op : Op} {f : Fx} {v : Value} (h : LvEntry R kvs o f) (hne : o ≠ op) : LvEntry R (stored kvs op.str v) o f := by
  obtain ⟨a, tw, tl, h1, h2⟩ := h
  refine ⟨a, tw, tl, ?_, h2⟩
  rw [valueAt_stored, if_neg (fun e => hne (Op.str_inj e))]; exact h1
theorem LvEntry.store_eq {R : Led} {kvs : List (Str × Value)} {op : Op} {wy : Way} {k : Int} {a : Addr} {t1 t2 : Tok} (h : (a, tupOf [.str wy.str t1, .int k t2]) ∈ R) : LvEntry R (stored kvs op.str (.ref a)) op ⟨wy, k⟩ :=
  ⟨a, t1, t2, by rw [valueAt_stored, if_pos rfl], h⟩
section
variable {w : World} {A : Around} {E : Value → Shared → Prop} {s : Shared} {h₀ : Heap} {L : Addr} {news : Led}
theorem way_item {value slice : PySem.Expr} {l : Nat} {k : Int} {u t1 t2 t3 : Tok} {n : Nat} {Q : Value → Shared → Prop} (N : News h₀ L s.heap news) (hl : (l, W.listOf [Value.str (Str.ofString "left") t1, .str (Str.ofString "right") t2, .str (Str.ofString "none") t3].toArray n) ∈ news) (h0 : 0 ≤ k) (h1 : k < 3) (h : ∀ wy t, Q (.str (Way.str wy) t) s)
    (hs : subscripted slice false (.ref l) (.int k u) = operate [.ref l, .int k u] (getItem (.ref l) (.int k u)) := by with_unfolding_all rfl) :
    wpAny (model PySem.Challenge.rw_og0006_01.row.prog w) A (subscriptTail value slice (.ref l) (.int k u)) Q E s := by
  have H : ∀ v, [Value.str (Str.ofString "left") t1, .str (Str.ofString "right") t2, .str (Str.ofString "none") t3][k.toNat]? = some v → Q v s := by
    intro v hv
    rcases (show k = 0 ∨ k = 1 ∨ k = 2 by omega) with rfl | rfl | rfl
    · cases hv; exact h .left _
    · cases hv; exact h .right _
    · cases hv; exact h .none _
  have hlt : k.toNat < 3 := by omega
  exact item_litK (vs := [Value.str (Str.ofString "left") t1, .str (Str.ofString "right") t2, .str (Str.ofString "none") t3]) ⟨_, (N _ hl).1, rfl, n, rfl⟩ h0 (by omega) (List.getElem?_eq_getElem hlt) (H _ (List.getElem?_eq_getElem hlt)) hs
end
local macro_rules | `(tactic| walk_at "subscriptTail") => sq [atSub "Value.int _ _", dk (ru "way_item" "amhh_w"), tl "wy' ty'" ""]
local macro_rules | `(tactic| walk_at "newTuple") => sq newTup
local macro_rules | `(tactic| walk_at "eval Dict") => sq [kh, dk (ru "kdn_str" "raaBrrcn_"), tl "d' h' o' F' N' l1 lo' hd'" "l"]
theorem kdS_set {prog : Program} {w : World} {A : Around} {E : Value → Shared → Prop} {s : Shared} {h₀ : Heap} {L d : Addr} {m : Str → Option Value} {news : Led} {o : Obj} {kvs : List (Str × Value)} {k : Str} {t : Tok} {v : Value} {g : Obj → Led} {Q : Unit → Shared → Prop} (F : Fr h₀ L s.heap m) (N : News h₀ L s.heap news) (U : UpdF d o news g) (hd : o.IsDictOf (PySem.strKind prog w) kvs) (hsz : kvs.length ≤ sizeLine)
    (h : ∀ h' o', Fr h₀ L h' m → News h₀ L h' (g o') → o'.IsDictOf (PySem.strKind prog w) (stored kvs k v) → Q () { s with heap := h', toks := s.toks + 1 }) : wpAny (model prog w) A (setItem (.ref d) (.str k t) v) Q E s := kda_set F N U hd (strKind_is _ _ _ _) hsz h
local macro_rules | `(tactic| walk_at "setItem ref str") => sq [kh, dk (ru "kdS_set" "aaVaz_"), tl "h' o' F' N' hd'" "N"]
local macro_rules | `(tactic| walk_at "exec For Name List cons nil") => sq [forT]
noncomputable def lvNames : List Op := [.plusC, .timesC, .eqC]
noncomputable def lvKnown (i : Nat) (o : Op) : Prop := o = .minus ∨ o = .colon ∨ o = .plus ∨ ∃ j, j < i ∧ lvNames[j]? = some o
structure LvBase (lv : Lv) : Prop where
  minus : lv .minus = ⟨.left, 6⟩
  colon : lv .colon = ⟨.right, 5⟩
  plus : lv .plus = ⟨.left, 9⟩
inductive LvJ (w : World) (src : Nat) (R : Led) (lo : Addr × Obj) (d : Nat) (m₀ : Loc) (i : Nat) : Loc → Led → Prop
  | mk (u : Option Value) (so od : Obj) (kvs : List (Str × Value)) (R' : Led) (lv : Lv) : (SrcObj so) → (od.IsDictOf (PySem.strKind PySem.Challenge.rw_og0006_01.row.prog w) kvs) → (lo ∈ R') → ((∀ p ∈ R, p ∈ R')) → ((∀ p ∈ R', p.1 ≠ src)) → ((∀ p ∈ R', p.1 ≠ d)) → (d ≠ src) → (kvs.length ≤ 3 + i) → ((∀ o, lvKnown i o → LvEntry R' kvs o (lv o))) → (LvBase lv) → (∀ j o, j < i → lvNames[j]? = some o → 5 ≤ (lv o).level ∧ (lv o).level ≤ 7) → LvJ w src R lo d m₀ i (fun y => if y = Str.ofString "name" then u else m₀ y) ((d, od) :: (src, so) :: R')
theorem LvJ.use {w : World} {src : Nat} {R : Led} {lo : Addr × Obj} {d : Nat} {m₀ : Loc} {i : Nat} {j0 : Loc} {j1 : Led} {C : Loc → Led → Prop} (h : LvJ w src R lo d m₀ i j0 j1) (k : ∀ (u : Option Value) (so od : Obj) (kvs : List (Str × Value)) (R' : Led) (lv : Lv), (SrcObj so) → (od.IsDictOf (PySem.strKind PySem.Challenge.rw_og0006_01.row.prog w) kvs) → (lo ∈ R') → ((∀ p ∈ R, p ∈ R')) → ((∀ p ∈ R', p.1 ≠ src)) → ((∀ p ∈ R', p.1 ≠ d)) → (d ≠ src) → (kvs.length ≤ 3 + i) → ((∀ o, lvKnown i o → LvEntry R' kvs o (lv o))) → (LvBase lv) → (∀ j o, j < i → lvNames[j]? = some o → 5 ≤ (lv o).level ∧ (lv o).level ≤ 7) → C (fun y => if y = Str.ofString "name" then u else m₀ y) ((d, od) :: (src, so) :: R')) : C j0 j1 := by
  obtain ⟨u, so, od, kvs, R', lv, q0, q1, q2, q3, q4, q5, q6, q7, q8, q9, q10⟩ := h
  exact k u so od kvs R' lv q0 q1 q2 q3 q4 q5 q6 q7 q8 q9 q10
theorem LvJ.of {w : World} {src : Nat} {R : Led} {lo : Addr × Obj} {d : Nat} {m₀ : Loc} {i : Nat} {m : Loc} {news : Led} (u : Option Value) (so od : Obj) (kvs : List (Str × Value)) (R' : Led) (lv : Lv) (h0 : m = (fun y => if y = Str.ofString "name" then u else m₀ y)) (h1 : SrcObj so) (h2 : od.IsDictOf (PySem.strKind PySem.Challenge.rw_og0006_01.row.prog w) kvs) (h3 : news = (d, od) :: (src, so) :: R') (h4 : lo ∈ R') (h5 : (∀ p ∈ R, p ∈ R')) (h6 : (∀ p ∈ R', p.1 ≠ src)) (h7 : (∀ p ∈ R', p.1 ≠ d)) (h8 : d ≠ src) (h9 : kvs.length ≤ 3 + i) (h10 : (∀ o, lvKnown i o → LvEntry R' kvs o (lv o))) (h11 : LvBase lv) (h12 : ∀ j o, j < i → lvNames[j]? = some o → 5 ≤ (lv o).level ∧ (lv o).level ≤ 7) : LvJ w src R lo d m₀ i m news := by
  subst h0; subst h3; exact ⟨u, so, od, kvs, R', lv, h1, h2, h4, h5, h6, h7, h8, h9, h10, h11, h12⟩
theorem LvJ.turn {w : World} {g h' : Heap} {L : Addr} {src d I D l' : Nat} {oI so od2 mn : Obj} {R R' : Led} {lo : Addr × Obj} {m₀ : Loc} {i : Nat} {s : Shared} {Q : Flow → Shared → Prop} {tk' : Nat} {v : Value} {u : Option Value} {kvs : List (Str × Value)} {lv : Lv} {op : Op} {t1 t2 : Tok} {wy : Way} {d2 : Int}
    (F3 : Fr g L h' (fun y => if y = Str.ofString "name" then some v else (fun y => if y = Str.ofString "name" then u else m₀ y) y))
    (N3 : News g L h' ((D, tupOf [.str wy.str t1, .int (5 + d2) t2]) :: (l', mn) :: (I, oI) :: (d, od2) :: (src, so) :: R'))
    (hs2 : SrcObj so) (hod2 : od2.IsDictOf (PySem.strKind PySem.Challenge.rw_og0006_01.row.prog w) (stored kvs op.str (.ref D))) (hd0 : 0 ≤ d2) (hd1 : d2 < 3)
    (hl : lo ∈ R') (hsub : ∀ p ∈ R, p ∈ R') (h1 : ∀ p ∈ R', p.1 ≠ src) (h2 : ∀ p ∈ R', p.1 ≠ d) (h3 : d ≠ src) (g3 : ∀ p ∈ R', p.1 ≠ I)
    (n1 : @Ne Nat D src) (n2 : @Ne Nat l' src) (n3 : @Ne Nat D d) (n4 : @Ne Nat l' d) (n5 : @Ne Nat D I) (n6 : @Ne Nat l' I) (g1 : @Ne Nat d I) (g2 : @Ne Nat src I)
    (h4 : kvs.length ≤ 3 + i) (h5 : ∀ o, lvKnown i o → LvEntry R' kvs o (lv o)) (h6 : LvBase lv) (h7 : ∀ j o, j < i → lvNames[j]? = some o → 5 ≤ (lv o).level ∧ (lv o).level ≤ 7)
    (hop : lvNames[i]? = some op) (hop3 : ∀ o, lvKnown i o → o ≠ op) :
    TurnPost g L I oI (LvJ w src R lo d m₀ (i + 1)) s Q .next { s with heap := h', toks := tk' } := by
  refine ⟨h', tk', _, (d, od2) :: (src, so) :: (D, tupOf [.str wy.str t1, .int (5 + d2) t2]) :: (l', mn) :: R', rfl, F3, News.sub N3 (by grind), by grind, ?_⟩
  refine LvJ.of (some v) so od2 _ ((D, tupOf [.str wy.str t1, .int (5 + d2) t2]) :: (l', mn) :: R') (fun o => if o = op then ⟨wy, 5 + d2⟩ else lv o) loc_twice hs2 hod2 rfl (by grind) (by grind) (by grind) (by grind) h3 ?_ ?_ ?_ ?_
  · have := stored_length_le kvs op.str (.ref D); omega
  · intro o ho
    by_cases e : o = op
    · subst e; simp only [if_true]; exact LvEntry.store_eq (.head _)
    · simp only [if_neg e]
      refine LvEntry.store_ne (LvEntry.mono (h5 o ?_) fun p hp => .tail _ (.tail _ hp)) e
      rcases ho with h | h | h | ⟨j, hj, hjo⟩
      · exact .inl h
      · exact .inr (.inl h)
      · exact .inr (.inr (.inl h))
      · refine .inr (.inr (.inr ⟨j, ?_, hjo⟩))
        rcases Nat.lt_succ_iff_lt_or_eq.mp hj with h | h
        · exact h
        · subst h; rw [hop] at hjo; exact absurd (Option.some.inj hjo).symm e
  · have e1 : Op.minus ≠ op := hop3 _ (.inl rfl)
    have e2 : Op.colon ≠ op := hop3 _ (.inr (.inl rfl))
    have e3 : Op.plus ≠ op := hop3 _ (.inr (.inr (.inl rfl)))
    exact ⟨by simp only [if_neg e1]; exact h6.minus, by simp only [if_neg e2]; exact h6.colon, by simp only [if_neg e3]; exact h6.plus⟩
  · intro j o hj hjo
    by_cases e : o = op
    · subst e; simp only [if_true]; omega
    · simp only [if_neg e]
      refine h7 j o ?_ hjo
      rcases Nat.lt_succ_iff_lt_or_eq.mp hj with h | h
      · exact h
      · subst h; rw [hop] at hjo; exact absurd (Option.some.inj hjo).symm e
theorem LvJ.fin {lv : Lv} (h6 : LvBase lv) (h7 : ∀ j o, j < 3 → lvNames[j]? = some o → 5 ≤ (lv o).level ∧ (lv o).level ≤ 7) : LvOk lv := by
  have a := h7 0 .plusC (by decide) rfl
  have b := h7 1 .timesC (by decide) rfl
  have c := h7 2 .eqC (by decide) rfl
  refine ⟨h6.minus, h6.colon, h6.plus, ?_, ?_⟩
  · intro o; cases o <;> first | omega | (simp only [h6.minus, h6.colon, h6.plus]; decide)
  · intro o ho; cases o <;> first | omega | (simp only [h6.minus, h6.colon]; decide) | exact absurd rfl ho
theorem lv_name {i : Nat} {v : Value} {t0 t1 t2 : Tok} {C : Value → Prop} (hv : #[Value.str (Str.ofString ":+") t0, .str (Str.ofString ":*") t1, .str (Str.ofString ":=") t2][i]? = some v) (k : ∀ op tok, lvNames[i]? = some op → C (.str (Op.str op) tok)) : C v := by
  match i, hv with
  | 0, hv => cases hv; exact k .plusC _ rfl
  | 1, hv => cases hv; exact k .timesC _ rfl
  | 2, hv => cases hv; exact k .eqC _ rfl
theorem lv_fresh {i : Nat} {op : Op} (hop : lvNames[i]? = some op) : ∀ o, lvKnown i o → o ≠ op := by
  intro o h e
  subst e
  match i, hop with
  | 0, hop =>
    cases hop
    rcases h with h | h | h | ⟨j, hj, _⟩
    · cases h
    · cases h
    · cases h
    · exact absurd hj (Nat.not_lt_zero _)
  | 1, hop =>
    cases hop
    rcases h with h | h | h | ⟨j, hj, h⟩
    · cases h
    · cases h
    · cases h
    · match j, hj with
      | 0, _ => cases h
  | 2, hop =>
    cases hop
    rcases h with h | h | h | ⟨j, hj, h⟩
    · cases h
    · cases h
    · cases h
    · match j, hj with
      | 0, _ => cases h
      | 1, _ => cases h
theorem lv_line {a i : Nat} (h : a ≤ 3 + i) (h2 : i < 3) : a ≤ 16777215 := Nat.le_trans h (Nat.le_trans (Nat.add_le_add_left (Nat.le_of_lt h2) 3) (by decide))
theorem lvKnown3 (o : Op) : lvKnown 3 o := by
  cases o
  · exact .inr (.inr (.inr ⟨0, by decide, rfl⟩))
  · exact .inr (.inr (.inr ⟨1, by decide, rfl⟩))
  · exact .inr (.inr (.inr ⟨2, by decide, rfl⟩))
  · exact .inr (.inl rfl)
  · exact .inr (.inr (.inl rfl))
  · exact .inl rfl
inductive LvPost (w : World) (src : Nat) (R : Led) : Value → Led → Prop
  | mk (o' : Obj) (d : Nat) (od : Obj) (kvs : List (Str × Value)) (R' : Led) (lv : Lv) : (SrcObj o') → ((∀ p ∈ R, p ∈ R')) → ((∀ p ∈ R', p.1 ≠ src)) → ((d, od) ∈ R') → (od.IsDictOf (PySem.strKind PySem.Challenge.rw_og0006_01.row.prog w) kvs) → (LvIn R' kvs lv) → (LvOk lv) → LvPost w src R (.ref d) ((src, o') :: R')
theorem LvPost.use {w : World} {src : Nat} {R : Led} {j0 : Value} {j1 : Led} {C : Value → Led → Prop} (h : LvPost w src R j0 j1) (k : ∀ (o' : Obj) (d : Nat) (od : Obj) (kvs : List (Str × Value)) (R' : Led) (lv : Lv), (SrcObj o') → ((∀ p ∈ R, p ∈ R')) → ((∀ p ∈ R', p.1 ≠ src)) → ((d, od) ∈ R') → (od.IsDictOf (PySem.strKind PySem.Challenge.rw_og0006_01.row.prog w) kvs) → (LvIn R' kvs lv) → (LvOk lv) → C (.ref d) ((src, o') :: R')) : C j0 j1 := by
  obtain ⟨o', d, od, kvs, R', lv, q0, q1, q2, q3, q4, q5, q6⟩ := h
  exact k o' d od kvs R' lv q0 q1 q2 q3 q4 q5 q6
set_option maxRecDepth 100000 in
set_option maxHeartbeats 8000000 in
theorem levels_ok (w : World) (src : Nat) (o : Obj) (R : Led) (hS : SrcObj o) (hR : ∀ p ∈ R, p.1 ≠ src) :
  Calls w 412 [.ref src] 2 ((src, o) :: R) (LvPost w src R) := by
  unfold Calls
  intro p loose mean mg mb dp un gd cn cs a ccd cl outer A₀ base h₀ L m s Q E B F X N T hk hdp hun hret
  revert X; k_fill; intro X
  refine wpAny_call ?_
  k_dflt ktr_enter
  refine letA ?_
  intro Ak
  k_steps
  rename News _ _ _ _ => N1
  rename Fr _ _ _ _ => F1
  rename_i d _ od0 lo hd0 l1 D1 _ l2 D2 _ l3 D3 _ l4 _ od hod _ l _ l5
  have N1' := News.swap5 N1
  clear N1
  with_unfolding_all refine iter_list (fun m₀ lo => LvJ w src R lo d m₀) (by rfl) F1 N1' (by k_mem) ?_ ?_ ?_ ?_
  · refine LvJ.of _ o od _ _ (fun o => match o with | .minus => ⟨.left, 6⟩ | .colon => ⟨.right, 5⟩ | _ => ⟨.left, 9⟩) loc_same hS hod rfl (.head _) (fun p hp => .tail _ (.tail _ (.tail _ (.tail _ hp)))) ?_ ?_ ?_ (show 3 ≤ 3 from Nat.le_refl 3) ?_ ⟨rfl, rfl, rfl⟩ (fun j o h => absurd h (Nat.not_lt_zero _))
    · exact (List.forall_mem_cons.mpr ⟨by k_ne, List.forall_mem_cons.mpr ⟨by k_ne, List.forall_mem_cons.mpr ⟨by k_ne, List.forall_mem_cons.mpr ⟨by k_ne, hR⟩⟩⟩⟩)
    · exact (List.forall_mem_cons.mpr ⟨by k_ne, List.forall_mem_cons.mpr ⟨by k_ne, List.forall_mem_cons.mpr ⟨by k_ne, List.forall_mem_cons.mpr ⟨by k_ne, fun p hp => Nat.ne_of_lt (tb_ltOf l1.2 p hp)⟩⟩⟩⟩)
    · k_ne
    · rintro o (rfl | rfl | rfl | ⟨j, hj, _⟩)
      · exact ⟨_, _, _, rfl, .tail _ (.tail _ (.tail _ (.head _)))⟩
      · exact ⟨_, _, _, rfl, .tail _ (.tail _ (.head _))⟩
      · exact ⟨_, _, _, rfl, .tail _ (.head _)⟩
      · exact absurd hj (Nat.not_lt_zero _)
  · rintro i m news ⟨u, so, od, kvs, R', lv, hso, hod, hl, -⟩
    exact .tail _ (.tail _ hl)
  · intro I i v m₁ news₁ h tk oI hv hJ
    apply LvJ.use hJ
    intro u so od kvs R' lv hso hod hl hsub h1 h2 h3 h4 h5 h6 h7 hnI F2 N2
    have g1 : @Ne Nat d I := hnI _ (.head _)
    have g2 : @Ne Nat src I := hnI _ (.tail _ (.head _))
    have g3 : ∀ p ∈ R', p.1 ≠ I := fun p hp => hnI p (.tail _ (.tail _ hp))
    revert F2
    apply lv_name hv
    clear hv
    intro op tok hop F2
    have hi3 : i < 3 := (List.getElem?_eq_some_iff.mp hop).1
    have hz := lv_line h4 hi3
    have hop3 := lv_fresh hop
    clear F1 N1'
    (try k_fold)
    k_steps
    rename Fr _ _ _ _ => F3
    rename News _ _ _ _ => N3
    rename SrcObj _ => hs2
    rename Obj.IsDictOf _ _ _ => hod2
    exact LvJ.turn F3 N3 hs2 hod2 (by assumption) (by assumption) hl hsub h1 h2 h3 g3 (by k_ne) (by k_ne) (by k_ne) (by k_ne) (by k_ne) (by k_ne) g1 g2 h4 h5 h6 h7 hop hop3
  · intro m₁ news₁ h tk hJ
    apply LvJ.use hJ
    intro u so od kvs R' lv hso hod hl hsub h1 h2 h3 h4 h5 h6 h7 F2 N2
    clear F1 N1'
    k_steps
    exact hret _ _ _ _ (by assumption) (News.swap2 (by assumption)) ⟨so, d, od, kvs, (d, od) :: R', lv, hso, fun p hp => .tail _ (hsub p hp), List.forall_mem_cons.mpr ⟨h3, h1⟩, .head _, hod, fun o => (h5 o (lvKnown3 o)).mono fun p hp => .tail _ hp, LvJ.fin h6 h7⟩
inductive Tr | num (k : Int) | var | neg (t : Tr) | bin (o : Op) (l r : Tr)
noncomputable def Tr.size : Tr → Nat
  | .num _ => 0
  | .var => 0
  | .neg t => t.size + 1
  | .bin _ l r => l.size + r.size + 1
theorem sz1 {k : Int} : (Tr.num k).size = 0 := rfl
theorem sz2 : Tr.var.size = 0 := rfl
theorem sz3 {t : Tr} : (Tr.neg t).size = t.size + 1 := rfl
theorem sz4 {o : Op} {l r : Tr} : (Tr.bin o l r).size = l.size + r.size + 1 := rfl
inductive TrIn (R : Led) : Value → Tr → Prop
  | num {k : Int} {t : Tok} : TrIn R (.int k t) (.num k)
  | var {a : Nat} {t : Tok} : (a, tupOf [.str (Str.ofString "x") t]) ∈ R → TrIn R (.ref a) .var
  | neg {a : Nat} {t1 : Tok} {v : Value} {t : Tr} : (a, tupOf [.str (Op.str .minus) t1, v]) ∈ R → TrIn R v t → TrIn R (.ref a) (.neg t)
  | bin {a : Nat} {t1 : Tok} {o : Op} {v1 v2 : Value} {l r : Tr} : (a, tupOf [.str (Op.str o) t1, v1, v2]) ∈ R → TrIn R v1 l → TrIn R v2 r → TrIn R (.ref a) (.bin o l r)
theorem TrIn.use {R : Led} {v : Value} {e : Tr} {C : Value → Tr → Prop} (h : TrIn R v e) (k1 : ∀ k t, C (.int k t) (.num k)) (k2 : ∀ (a : Nat) t, (a, tupOf [.str (Str.ofString "x") t]) ∈ R → C (.ref a) .var) (k3 : ∀ (a : Nat) t1 v1 t, (a, tupOf [.str (Op.str .minus) t1, v1]) ∈ R → TrIn R v1 t → C (.ref a) (.neg t)) (k4 : ∀ (a : Nat) t1 o v1 v2 l r, (a, tupOf [.str (Op.str o) t1, v1, v2]) ∈ R → TrIn R v1 l → TrIn R v2 r → C (.ref a) (.bin o l r)) : C v e := by
  cases h with
  | num => exact k1 _ _
  | var h => exact k2 _ _ h
  | neg h a => exact k3 _ _ _ _ h a
  | bin h a b => exact k4 _ _ _ _ _ _ _ h a b
theorem TrIn.mono {R R' : Led} (hs : ∀ p ∈ R, p ∈ R') {v : Value} {t : Tr} (h : TrIn R v t) : TrIn R' v t := by
  induction h with
  | num => exact .num
  | var h => exact .var (hs _ h)
  | neg h _ ih => exact .neg (hs _ h) ih
  | bin h _ _ i1 i2 => exact .bin (hs _ h) i1 i2
/-- The operators on a tree's edge: the left one (false), the right one (true). -/
noncomputable def edges : Bool → Tr → List Op
  | _, .num _ => []
  | _, .var => []
  | false, .neg _ => []
  | true, .neg t => .minus :: edges true t
  | false, .bin o l _ => o :: edges false l
  | true, .bin o _ r => o :: edges true r
inductive All2 {α β : Type} (P : α → β → Prop) : List α → List β → Prop
  | nil : All2 P [] []
  | cons {a b as bs} : P a b → All2 P as bs → All2 P (a :: as) (b :: bs)
theorem All2.mono {α β : Type} {P Q : α → β → Prop} (h : ∀ a b, P a b → Q a b) {as : List α} {bs : List β} (x : All2 P as bs) : All2 Q as bs := by
  induction x with
  | nil => exact .nil
  | cons p _ ih => exact .cons (h _ _ p) ih
theorem All2.append {α β : Type} {P : α → β → Prop} {as as' : List α} {bs bs' : List β} (x : All2 P as bs) (y : All2 P as' bs') : All2 P (as ++ as') (bs ++ bs') := by
  induction x with
  | nil => exact y
  | cons p _ ih => exact .cons p ih
theorem All2.length {α β : Type} {P : α → β → Prop} {as : List α} {bs : List β} (x : All2 P as bs) : as.length = bs.length := by
  induction x with
  | nil => rfl
  | cons p _ ih => simp [ih]
theorem All2.get {α β : Type} {P : α → β → Prop} {as : List α} {bs : List β} (x : All2 P as bs) {i : Nat} {a : α} (h : as[i]? = some a) : ∃ b, bs[i]? = some b ∧ P a b := by
  induction x generalizing i with
  | nil => simp at h
  | cons p _ ih =>
    cases i with
    | zero => simp at h; subst h; exact ⟨_, rfl, p⟩
    | succ i => simp at h; simpa using ih h
theorem All2.take {α β : Type} {P : α → β → Prop} {as : List α} {bs : List β} (x : All2 P as bs) (n : Nat) : All2 P (as.take n) (bs.take n) := by
  induction x generalizing n with
  | nil => simp; exact .nil
  | cons p _ ih => cases n with
    | zero => simp; exact .nil
    | succ n => simp; exact .cons p (ih n)
theorem All2.drop {α β : Type} {P : α → β → Prop} {as : List α} {bs : List β} (x : All2 P as bs) (n : Nat) : All2 P (as.drop n) (bs.drop n) := by
  induction x generalizing n with
  | nil => simp; exact .nil
  | cons p t ih => cases n with
    | zero => simp; exact .cons p t
    | succ n => simp; exact ih n
noncomputable def StrsAre (vs : List Value) (os : List Op) : Prop := All2 (fun v o => ∃ t, v = Value.str (Op.str o) t) vs os

theorem LvIn.up {R R' : Led} {kvs : List (Str × Value)} {lv : Lv} (h : LvIn R kvs lv) (hs : ∀ p ∈ R, p ∈ R') : LvIn R' kvs lv := fun o => (h o).mono hs
theorem TrIn.up {R R' : Led} {v : Value} {t : Tr} (h : TrIn R v t) (hs : ∀ p ∈ R, p ∈ R') : TrIn R' v t := h.mono hs
theorem isi_tup {w : World} {A : Around} {E : Value → Shared → Prop} {s : Shared} {h₀ : Heap} {L : Addr} {news : Led} {a : Nat} {vs : List Value} {Q : Value → Shared → Prop} (N : News h₀ L s.heap news) (hm : (a, tupOf vs) ∈ news) (h : Q (.bool true) s) :
    wpAny (model PySem.Challenge.rw_og0006_01.row.prog w) A (call (.builtin "isinstance") [.ref a, .type "tuple"]) Q E s :=
  call_isinstance (isinstance_true (Tx := "tuple") PySem.F.isi_meta_tuple PySem.F.sub_tuple_tuple) ⟨⟨_, (N _ hm).1, rfl⟩, h⟩
local macro_rules | `(tactic| walk_at "call builtin:isinstance") => sq [atIs "\"tuple\"", dk (ru "isi_tup" "am_")]
theorem lv_item {w : World} {A : Around} {E : Value → Shared → Prop} {s : Shared} {h₀ : Heap} {L : Addr} {news R : Led} {d : Nat} {od : Obj} {kvs : List (Str × Value)} {lv : Lv} {o : Op} {t : Tok} {value slice : PySem.Expr} {Q : Value → Shared → Prop} (N : News h₀ L s.heap news) (hm : (d, od) ∈ news)
    (hD : od.IsDictOf (PySem.strKind PySem.Challenge.rw_og0006_01.row.prog w) kvs) (hL : LvIn R kvs lv)
    (h : ∀ (a : Nat) tw tl, (a, tupOf [.str (lv o).way.str tw, .int (lv o).level tl]) ∈ R → Q (.ref a) { s with toks := s.toks + 1 })
    (hs : subscripted slice false (.ref d) (.str o.str t) = operate [.ref d, .str o.str t] (getItem (.ref d) (.str o.str t)) := by with_unfolding_all rfl) (hg : ∀ r, letTemporaryGo value (.ref d) r = pure () := by intro _; with_unfolding_all rfl) :
    wpAny (model PySem.Challenge.rw_og0006_01.row.prog w) A (subscriptTail value slice (.ref d) (.str o.str t)) Q E s := by
  obtain ⟨a, tw, tl, h1, h2⟩ := hL o
  exact kda_item (knd := PySem.strKind _ _) N hm hD (strKind_is _ _ _ _) h1 (h a tw tl h2) hs hg
theorem tup_item {w : World} {A : Around} {E : Value → Shared → Prop} {s : Shared} {h₀ : Heap} {L : Addr} {news : Led} {a : Nat} {vs : List Value} {k : Int} {u : Tok} {v : Value} {value slice : PySem.Expr} {Q : Value → Shared → Prop} (N : News h₀ L s.heap news) (hm : (a, tupOf vs) ∈ news)
    {j : Nat} (h0 : -(2 ^ 63) ≤ k) (hhi : k < 2 ^ 63) (hj : seqIndex? k vs.length = some j) (hx : vs[j]? = some v) (h : Q v s)
    (hs : subscripted slice false (.ref a) (.int k u) = operate [.ref a, .int k u] (getItem (.ref a) (.int k u)) := by with_unfolding_all rfl) :
    wpAny (model PySem.Challenge.rw_og0006_01.row.prog w) A (subscriptTail value slice (.ref a) (.int k u)) Q E s :=
  item_tupleT (News.isTup N hm) h0 hhi hj hx h hs
local macro_rules | `(tactic| walk_at "subscriptTail") => sq [atSub "Value.str _ _", dk (ru "lv_item" "amhh_wW"), tl "a9 tw9 tl9 hm9" ""]
local macro_rules | `(tactic| walk_at "subscriptTail") => sq [atSub "Value.int _ _", dk (ru "tup_item" "amddrr_w")]
theorem lst_item {w : World} {A : Around} {E : Value → Shared → Prop} {s : Shared} {h₀ : Heap} {L : Addr} {news : Led} {a n : Nat} {vs : Array Value} {k : Int} {u : Tok} {v : Value} {value slice : PySem.Expr} {Q : Value → Shared → Prop} (N : News h₀ L s.heap news) (hm : (a, listOf vs n) ∈ news)
    (hx : vs[k.toNat]? = some v) (h0 : 0 ≤ k) (hhi : k < 2 ^ 63) (h : Q v s)
    (hs : subscripted slice false (.ref a) (.int k u) = operate [.ref a, .int k u] (getItem (.ref a) (.int k u)) := by with_unfolding_all rfl) :
    wpAny (model PySem.Challenge.rw_og0006_01.row.prog w) A (subscriptTail value slice (.ref a) (.int k u)) Q E s :=
  tail_any (listOf_isList (N _ hm).1).typeIs slot_list_getitem.lookup (wpAny_getItem_list (listOf_isList (N _ hm).1) h0 hhi hx h) hs
local macro_rules | `(tactic| walk_at "subscriptTail") => sq [atSub "Value.int _ _", dk (ru "lst_item" "amhii_w")]
local macro_rules | `(tactic| walk_at "exec While BoolOp cons nil") => sq [stop]
noncomputable def EdJ (R : Led) (l : Nat) (side : Bool) (t : Tr) (m₀ : Loc) (n : Nat) (m : Loc) (news : Led) : Prop :=
  ∃ (v' : Value) (t' : Tr) (vs : Array Value) (os : List Op) (k : Nat), t'.size = n ∧ m = (fun y => if y = Str.ofString "tree" then some v' else m₀ y) ∧ TrIn R v' t' ∧ news = (l, listOf vs k) :: R ∧ StrsAre vs.toList os ∧ os ++ edges side t' = edges side t ∧ vs.size + t'.size ≤ t.size
theorem EdJ.use {R : Led} {l : Nat} {side : Bool} {t : Tr} {m₀ : Loc} {n : Nat} {m : Loc} {news : Led} {C : Nat → Loc → Led → Prop} (h : EdJ R l side t m₀ n m news) (k : ∀ (v' : Value) (t' : Tr) (vs : Array Value) (os : List Op) (k : Nat), TrIn R v' t' → StrsAre vs.toList os → os ++ edges side t' = edges side t → vs.size + t'.size ≤ t.size → C t'.size (fun y => if y = Str.ofString "tree" then some v' else m₀ y) ((l, listOf vs k) :: R)) : C n m news := by
  obtain ⟨v', t', vs, os, n, rfl, rfl, a, rfl, b, c, d⟩ := h
  exact k v' t' vs os n a b c d
theorem EdJ.turn {R : Led} {l : Nat} {side : Bool} {t t1 t2 : Tr} {v2 : Value} {o : Op} {tk1 : Tok} {m₀ : Loc} {g h' : Heap} {L : Addr} {s : Shared} {Q : Flow → Shared → Prop} {tk : Nat} {v1 : Value} {vs : Array Value} {os : List Op} {k : Nat}
    (F3 : Fr g L h' (fun y => if y = Str.ofString "tree" then some v2 else (fun y => if y = Str.ofString "tree" then some v1 else m₀ y) y))
    (N3 : News g L h' ((l, listOf (vs.push (.str o.str tk1)) k) :: R)) (hv : TrIn R v2 t2) (hs : t2.size + 1 ≤ t1.size) (hvs : StrsAre vs.toList os) (hos : os ++ edges side t1 = edges side t) (he : edges side t1 = o :: edges side t2) (hz : vs.size + t1.size ≤ t.size) :
    WhileStep2 g L s (EdJ R l side t m₀) Q t1.size .next { s with heap := h', toks := tk } := by
  refine WhileStep2.go F3 N3 (n' := t2.size) (by omega) ⟨v2, t2, _, os ++ [o], k, rfl, loc_twice, hv, rfl, ?_, ?_, ?_⟩
  · rw [Array.toList_push]; exact All2.append hvs (.cons ⟨_, rfl⟩ .nil)
  · rw [List.append_assoc, ← hos, he]; rfl
  · rw [Array.size_push]; omega
theorem strs_nil {vs : List Value} {os es : List Op} (h : os ++ [] = es) (x : StrsAre vs os) : StrsAre vs es := by rw [List.append_nil] at h; exact h ▸ x
set_option maxRecDepth 100000 in
set_option maxHeartbeats 8000000 in
theorem edges_ok (w : World) (R : Led) (v : Value) (t : Tr) (side : Bool) (ts : Tok) (hv : TrIn R v t) (hz : t.size ≤ 1000) :
  Calls w 419 [v, .int (if side then 1 else 0) ts] 1 R (fun r led' => ∃ (l : Nat) (vs : Array Value) (n : Nat), r = .ref l ∧ led' = (l, listOf vs n) :: R ∧ (∀ p ∈ R, p.1 < l) ∧ StrsAre vs.toList (edges side t)) := by
  unfold Calls
  intro p loose mean mg mb dp un gd cn cs a ccd cl outer A₀ base h₀ L m s Q E B F X N T hk hdp hun hret
  revert X; k_fill; intro X
  refine wpAny_call ?_
  k_dflt ktr_enter
  refine letA ?_
  intro Ak
  k_steps
  unfold Stop
  rename News _ _ _ _ => N1
  rename Fr _ _ _ _ => F1
  rename_i l _ l1 _
  have hR : ∀ p ∈ R, p.1 ≠ l := fun p hp => Nat.ne_of_lt (l1 p hp)
  refine while_J (EdJ R l side t) t.size F1 N1 (by passes_own) ⟨v, t, #[], [], 0, rfl, ?_, hv, rfl, .nil, rfl, Nat.le_of_eq (Nat.zero_add _)⟩ ?_
  · exact loc_same
  · intro n m₁ news₁ h₁ tk₁ F2 N2 hJ
    revert F2 N2
    apply EdJ.use hJ
    intro v' t' vs os k hv' hvs hos hsz F2 N2
    clear F1 N1
    (try k_fold)
    cases hv'
    case' neg => cases side
    case' bin => cases side
    all_goals dsimp only [sz1, sz2, sz3, sz4, edges] at hsz hos
    all_goals k_steps
    all_goals (try ((with_reducible show WhileStep2 _ _ _ _ _ _ (Flow.ret _) _); dsimp only [WhileStep2]))
    all_goals k_steps
    all_goals (first
      | exact EdJ.turn (by assumption) (by assumption) (by assumption) (by dsimp only [sz1, sz2, sz3, sz4]; omega) hvs hos rfl hsz
      | exact hret _ _ _ _ (by assumption) (by assumption) ⟨l, _, _, rfl, rfl, l1, strs_nil hos hvs⟩)
theorem edges_any (w : World) (R : Led) (v : Value) (t : Tr) (side : Bool) (k : Int) (ts : Tok) (hv : TrIn R v t) (hz : t.size ≤ 1000) (hk : k = if side then 1 else 0) :
  Calls w 419 [v, .int k ts] 1 R (fun r led' => ∃ (l : Nat) (vs : Array Value) (n : Nat), r = .ref l ∧ led' = (l, listOf vs n) :: R ∧ (∀ p ∈ R, p.1 < l) ∧ StrsAre vs.toList (edges side t)) := by
  subst hk; exact edges_ok w R v t side ts hv hz
noncomputable def sideWay : Bool → Way | false => .left | true => .right
noncomputable def besideOne (lv : Lv) (o : Op) (side : Bool) (x : Op) : Bool :=
  !decide ((lv x).level < (lv o).level) && (!decide ((lv x).level = (lv o).level) || (decide ((lv o).way = (lv x).way) && decide ((lv x).way = sideWay side)))
noncomputable def beside (lv : Lv) (o : Op) (t : Tr) (side : Bool) : Bool := (edges (!side) t).all (besideOne lv o side)
noncomputable def beNames : List Str := [Str.ofString "other", Str.ofString "other_way", Str.ofString "other_level"]
theorem loc_same9 {names : List Str} {m : Loc} : m = fun y => if names.contains y then m y else m y := by funext y; simp
noncomputable def BeJ (R : Led) (es : List Op) (lv : Lv) (o : Op) (side : Bool) (m₀ : Loc) (lo : Addr × Obj) (i : Nat) (m : Loc) (news : Led) : Prop :=
  (∃ u : Loc, m = fun y => if beNames.contains y then u y else m₀ y) ∧ news = lo :: R ∧ ∀ j x, j < i → es[j]? = some x → besideOne lv o side x = true
theorem way_beq (a b : Way) : (Way.str a == Way.str b) = decide (a = b) := by cases a <;> cases b <;> decide
theorem way_beq_side (a : Way) (b : Bool) : (Way.str a == Str.ofString (if b then "right" else "left")) = decide (a = sideWay b) := by cases a <;> cases b <;> decide
section
variable {lv : Lv} {o x : Op} {sd : Bool} {t : Tr}
theorem be_lt (h : (lv x).level < (lv o).level) : besideOne lv o sd x = false := by unfold besideOne; simp [h]
theorem be_ne (h : (lv x).level = (lv o).level) (h2 : ((lv o).way.str == (lv x).way.str) = false) : besideOne lv o sd x = false := by
  rw [way_beq] at h2; unfold besideOne; simp [h, h2]
theorem be_sd (h : (lv x).level = (lv o).level) (h2 : ((lv x).way.str == Str.ofString (if sd then "right" else "left")) = false) : besideOne lv o sd x = false := by
  rw [way_beq_side] at h2; unfold besideOne; simp [h, h2]
theorem be_ok1 (h : ¬ (lv x).level < (lv o).level) (h1 : ¬ (lv x).level = (lv o).level) : besideOne lv o sd x = true := by unfold besideOne; simp [h, h1]
theorem be_ok2 (h1 : (lv x).level = (lv o).level) (h2 : ((lv o).way.str == (lv x).way.str) = true) (h3 : ((lv x).way.str == Str.ofString (if sd then "right" else "left")) = true) : besideOne lv o sd x = true := by
  rw [way_beq] at h2; rw [way_beq_side] at h3; unfold besideOne; simp only [decide_eq_true_eq] at h2 h3; simp [h1, h2, h3]
theorem be_false {i : Nat} (hx : (edges (!sd) t)[i]? = some x) (h : besideOne lv o sd x = false) : beside lv o t sd = false := by
  unfold beside
  rw [List.all_eq_false]
  exact ⟨x, List.mem_of_getElem? hx, by simp [h]⟩
theorem be_true {vs : List Value} {n : Nat} (hl : vs.length = (edges (!sd) t).length) (h : ∀ j x, j < n → (edges (!sd) t)[j]? = some x → besideOne lv o sd x = true) (hn : n = vs.length := by rfl) : beside lv o t sd = true := by
  unfold beside
  rw [List.all_eq_true]
  intro x hx
  obtain ⟨j, hj⟩ := List.getElem?_of_mem hx
  exact h j x (by have := (List.getElem?_eq_some_iff.mp hj).1; omega) hj
theorem BeJ.turn {R : Led} {es : List Op} {m₀ : Loc} {lo : Addr × Obj} {i : Nat} {g h' : Heap} {L : Addr} {I : Nat} {oI : Obj} {s : Shared} {Q : Flow → Shared → Prop} {tk : Nat} {led : Led} {v1 v2 v3 : Option Value} {u : Loc}
    (F3 : Fr g L h' (fun y => if y = Str.ofString "other_level" then v1 else if y = Str.ofString "other_way" then v2 else if y = Str.ofString "other" then v3 else (fun y => if beNames.contains y then u y else m₀ y) y))
    (N3 : News g L h' led) (hnI : ∀ p ∈ lo :: R, p.1 ≠ I) (hall : ∀ j x, j < i → es[j]? = some x → besideOne lv o sd x = true) (hx : es[i]? = some x) (hb : besideOne lv o sd x = true)
    (hsub : ∀ p ∈ (I, oI) :: lo :: R, p ∈ led := by intro p hp; first | exact hp | exact .tail _ hp) :
    TurnPost g L I oI (BeJ R es lv o sd m₀ lo (i + 1)) s Q .next { s with heap := h', toks := tk } := by
  refine ⟨h', tk, _, lo :: R, rfl, F3, News.sub N3 hsub, hnI, ⟨_, loc_in ?_⟩, rfl, ?_⟩
  · intro y hy
    have hy' := hy
    simp only [beNames, List.contains_cons, List.contains_nil, Bool.or_false, Bool.or_eq_false_iff, beq_eq_false_iff_ne, ne_eq] at hy'
    simp only [hy, hy'.1, hy'.2.1, hy'.2.2, if_false]; simp
  · intro j x' hj hx'
    rcases Nat.lt_succ_iff_lt_or_eq.mp hj with h | h
    · exact hall j x' h hx'
    · subst h; rw [hx] at hx'; cases hx'; exact hb
end
theorem edgesPost_use {R : Led} {es : List Op} {r : Value} {led' : Led} {C : Value → Led → Prop} (h : ∃ (l : Nat) (vs : Array Value) (n : Nat), r = .ref l ∧ led' = (l, listOf vs n) :: R ∧ (∀ p ∈ R, p.1 < l) ∧ StrsAre vs.toList es) (k : ∀ (l : Nat) (vs : Array Value) (n : Nat), (∀ p ∈ R, p.1 < l) → StrsAre vs.toList es → C (.ref l) ((l, listOf vs n) :: R)) : C r led' := by
  obtain ⟨l, vs, n, rfl, rfl, a, b⟩ := h
  exact k l vs n a b
theorem BeJ.use {R : Led} {es : List Op} {lv : Lv} {o : Op} {side : Bool} {m₀ : Loc} {lo : Addr × Obj} {i : Nat} {m : Loc} {news : Led} {C : Loc → Led → Prop} (h : BeJ R es lv o side m₀ lo i m news) (k : ∀ u : Loc, (∀ j x, j < i → es[j]? = some x → besideOne lv o side x = true) → C (fun y => if beNames.contains y then u y else m₀ y) (lo :: R)) : C m news := by
  obtain ⟨⟨u, rfl⟩, rfl, a⟩ := h
  exact k u a
theorem strs_get {vs : List Value} {os : List Op} {i : Nat} {v : Value} {C : Value → Prop} (h : StrsAre vs os) (hv : vs[i]? = some v) (k : ∀ x t, os[i]? = some x → C (.str (Op.str x) t)) : C v := by
  obtain ⟨x, hx, t, rfl⟩ := All2.get h hv
  exact k x t hx
set_option maxRecDepth 100000 in
set_option maxHeartbeats 8000000 in
theorem beside_ok (w : World) (R : Led) (d : Nat) (od : Obj) (kvs : List (Str × Value)) (lv : Lv) (o : Op) (to : Tok) (v : Value) (t : Tr) (side : Bool) (ts : Tok) (hd : (d, od) ∈ R) (hD : od.IsDictOf (PySem.strKind PySem.Challenge.rw_og0006_01.row.prog w) kvs) (hL : LvIn R kvs lv) (hv : TrIn R v t) (hz : t.size ≤ 1000) :
  Calls w 426 [.ref d, .str o.str to, v, .int (if side then 1 else 0) ts] 2 R (fun r led' => r = .bool (beside lv o t side) ∧ led' = R) := by
  unfold Calls
  intro p loose mean mg mb dp un gd cn cs a ccd cl outer A₀ base h₀ L m s Q E B F X N T hk hdp hun hret
  revert X; k_fill; intro X
  refine wpAny_call ?_
  refine ex1_1 (⟨_, rfl⟩ : ∃ k : Int, k = if side then 1 else 0) fun k hk9 => ?_
  rw [← hk9]
  have hk1 : (1 : Int) - k = if !side then 1 else 0 := by subst hk9; cases side <;> rfl
  have hk2 : 0 ≤ k := by subst hk9; cases side <;> decide
  have hk3 : k < 2 ^ 63 := by subst hk9; cases side <;> decide
  have hk4 : ∀ t1 t2 : Tok, [Value.str (Str.ofString "left") t1, .str (Str.ofString "right") t2].toArray[k.toNat]? = some (.str (Str.ofString (if side then "right" else "left")) (if side then t2 else t1)) := fun _ _ => by subst hk9; cases side <;> rfl
  k_dflt ktr_enter
  refine letA ?_
  intro Ak
  have mc : MarkC 419 := trivial
  k_steps
  unfold Stop
  rename News _ _ _ _ => N9
  rename Fr _ _ _ _ => F9
  refine Calls.use (edges_any w R v t (!side) _ _ hv hz hk1) (by k_asm) F9 (by k_asm) N9 (by k_asm) ?_ ?_ ?_ ?_
  · exact rfl
  · ktr_room
  · ktr_units
  clear F9 N9
  intro r9 l9 h9 tk9 F9 N9 P9
  revert N9
  apply edgesPost_use P9
  intro lE vsE nE hlE hvE N9
  k_steps
  rename News _ _ _ _ => N1
  rename Fr _ _ _ _ => F1
  refine iter_list (BeJ R (edges (!side) t) lv o side) (by rfl) F1 N1 (by k_mem) ⟨⟨_, loc_same9⟩, rfl, fun j _ h => absurd h (Nat.not_lt_zero _)⟩ ?_ ?_ ?_
  · rintro i m news ⟨-, rfl, -⟩; exact .head _
  · intro I i v₁ m₁ news₁ h tk oI hi hJ
    apply BeJ.use hJ
    intro u hall hnI F2 N2
    have hi9 := hi
    revert hi F2
    apply strs_get (v := v₁) hvE (by simpa using hi9)
    intro x tx hx hi F2
    clear F1 N1
    (try k_fold)
    k_steps
    all_goals (try ((with_reducible show wpAny _ _ (subscriptTail _ _ _ _) _ _ _); refine lst_item (by k_asm) (by k_mem) (hk4 _ _) hk2 hk3 ?_ (by with_unfolding_all rfl); k_steps))
    all_goals (try ((with_reducible show TurnPost _ _ _ _ _ _ _ (Flow.ret _) _); dsimp only [TurnPost]))
    all_goals k_steps
    all_goals first
      | (refine hret _ _ _ _ (by assumption) (News.sub (by assumption) (by intro p hp; k_mem)) ⟨congrArg Value.bool (be_false hx ?_).symm, rfl⟩
         first | exact be_lt (by assumption) | exact be_ne (by assumption) (by assumption) | exact be_sd (by assumption) (by assumption))
      | (refine BeJ.turn (by assumption) (by assumption) hnI hall hx ?_
         first | exact be_ok1 (by assumption) (by assumption) | exact be_ok2 (by assumption) (by assumption) (by assumption))
  · intro m₁ news₁ h tk hJ
    apply BeJ.use hJ
    intro u hall F2 N2
    clear F1 N1
    k_steps
    exact hret _ _ _ _ (by assumption) (News.sub (by assumption) (by intro p hp; k_mem)) ⟨congrArg Value.bool (be_true (All2.length hvE) hall).symm, rfl⟩
local macro_rules | `(tactic| walk_at "exec While BoolOp cons nil") => sq [stop]
theorem beside_any (w : World) (R : Led) (d : Nat) (od : Obj) (kvs : List (Str × Value)) (lv : Lv) (o : Op) (to : Tok) (v : Value) (t : Tr) (side : Bool) (k : Int) (ts : Tok) (hd : (d, od) ∈ R) (hD : od.IsDictOf (PySem.strKind PySem.Challenge.rw_og0006_01.row.prog w) kvs) (hL : LvIn R kvs lv) (hv : TrIn R v t) (hz : t.size ≤ 1000) (hk : k = if side then 1 else 0) :
  Calls w 426 [.ref d, .str o.str to, v, .int k ts] 2 R (fun r led' => r = .bool (beside lv o t side) ∧ led' = R) := by
  subst hk; exact beside_ok w R d od kvs lv o to v t side ts hd hD hL hv hz
local macro_rules | `(tactic| walk_at "call ref") => sq [atCall "426", dk (orT (["true", "false"].map fun b => cl "Calls.use" "beside_any" "..........$..mhLThd" b [18])), tl2 "eq2_use" "N'" []]
theorem beside_minus (w : World) (R : Led) (d : Nat) (od : Obj) (kvs : List (Str × Value)) (lv : Lv) (to : Tok) (v : Value) (t : Tr) (ts : Tok) (hd : (d, od) ∈ R) (hD : od.IsDictOf (PySem.strKind PySem.Challenge.rw_og0006_01.row.prog w) kvs) (hL : LvIn R kvs lv) (hv : TrIn R v t) (hz : t.size ≤ 1000) :
  Calls w 426 [.ref d, .str (Str.ofString "-") to, v, .int 1 ts] 2 R (fun r led' => r = .bool (beside lv .minus t true) ∧ led' = R) :=
  beside_ok w R d od kvs lv .minus to v t true ts hd hD hL hv hz
local macro_rules | `(tactic| walk_at "call ref") => sq [atT "call ( Value.ref 426 ) ( List.cons _ ( List.cons ( Value.str ( Str.ofString \"-\" ) _ ) _ ) ) _", dk (cl "Calls.use" "beside_minus" "..........mhLTh"), tl2 "eq2_use" "N'" []]
noncomputable def headNeg : Tr → Bool
  | .neg _ => true
  | .bin _ l _ => headNeg l
  | _ => false
noncomputable def signedOk (lv : Lv) (o : Op) (t : Tr) : Bool := !headNeg t || decide ((lv o).level < 6)
noncomputable def SgJ (R : Led) (t : Tr) (m₀ : Loc) (n : Nat) (m : Loc) (news : Led) : Prop :=
  ∃ (v' : Value) (t' : Tr), t'.size = n ∧ m = (fun y => if y = Str.ofString "right" then some v' else m₀ y) ∧ TrIn R v' t' ∧ news = R ∧ headNeg t' = headNeg t
theorem SgJ.turn {R : Led} {t t1 t2 : Tr} {v2 : Value} {m₀ : Loc} {g h' : Heap} {L : Addr} {s : Shared} {Q : Flow → Shared → Prop} {tk : Nat} {v1 : Value}
    (F3 : Fr g L h' (fun y => if y = Str.ofString "right" then some v2 else (fun y => if y = Str.ofString "right" then some v1 else m₀ y) y))
    (N3 : News g L h' R) (hv : TrIn R v2 t2) (hs : t2.size + 1 ≤ t1.size) (he : headNeg t2 = headNeg t1) (hos : headNeg t1 = headNeg t) :
    WhileStep2 g L s (SgJ R t m₀) Q t1.size .next { s with heap := h', toks := tk } :=
  WhileStep2.go F3 N3 (n' := t2.size) (by omega) ⟨v2, t2, rfl, loc_twice, hv, rfl, he.trans hos⟩
set_option maxRecDepth 100000 in
set_option maxHeartbeats 8000000 in
theorem signed_ok (w : World) (R : Led) (d : Nat) (od : Obj) (kvs : List (Str × Value)) (lv : Lv) (o : Op) (to : Tok) (v : Value) (t : Tr) (hd : (d, od) ∈ R) (hD : od.IsDictOf (PySem.strKind PySem.Challenge.rw_og0006_01.row.prog w) kvs) (hL : LvIn R kvs lv) (hv : TrIn R v t) :
  Calls w 433 [.ref d, .str o.str to, v] 1 R (fun r led' => r = .bool (signedOk lv o t) ∧ led' = R) := by
  unfold Calls
  intro p loose mean mg mb dp un gd cn cs a ccd cl outer A₀ base h₀ L m s Q E B F X N T hk hdp hun hret
  revert X; k_fill; intro X
  refine wpAny_call ?_
  k_dflt ktr_enter
  refine letA ?_
  intro Ak
  k_steps
  unfold Stop
  rename News _ _ _ _ => N1
  rename Fr _ _ _ _ => F1
  refine while_J (SgJ R t) t.size F1 N1 (by passes_own) ⟨v, t, rfl, ?_, hv, rfl, rfl⟩ ?_
  · exact loc_same
  · rintro n m₁ news₁ h₁ tk₁ F2 N2 ⟨v', t', rfl, rfl, hv', rfl, hos⟩
    clear F1 N1
    cases hv'
    all_goals dsimp only [sz1, sz2, sz3, sz4, headNeg] at hos
    all_goals k_steps
    all_goals first
      | exact SgJ.turn (by assumption) (by assumption) (by assumption) (by dsimp only [sz1, sz2, sz3, sz4]; omega) (by rfl) hos
      | exact hret _ _ _ _ (by assumption) (by assumption) ⟨congrArg Value.bool (by unfold signedOk; rw [← hos]; first | rfl | simp), rfl⟩
local macro_rules | `(tactic| walk_at "call ref") => sq [atCall "433", dk (cl "Calls.use" "signed_ok" "..........mhLT"), tl2 "eq2_use" "N'" []]
/-- A ledger that has grown by what lies above. -/
noncomputable def Grows (R R' : Led) : Prop := (∀ p ∈ R, p ∈ R') ∧ ∀ p ∈ R', p ∈ R ∨ ∀ q ∈ R, @LT.lt Nat _ q.1 p.1
theorem Grows.refl (R : Led) : Grows R R := ⟨fun _ h => h, fun _ h => .inl h⟩
theorem Grows.trans {R R1 R2 : Led} (a : Grows R R1) (b : Grows R1 R2) : Grows R R2 :=
  ⟨fun p h => b.1 p (a.1 p h), fun p h => (b.2 p h).elim (fun h => a.2 p h) fun h => .inr fun q hq => h q (a.1 q hq)⟩
theorem Grows.cons {R : Led} {a : Nat} {o : Obj} (h : ∀ p ∈ R, @LT.lt Nat _ p.1 a) : Grows R ((a, o) :: R) :=
  ⟨fun p hp => .tail _ hp, fun p hp => by
    rcases List.mem_cons.mp hp with rfl | hp
    · exact .inr h
    · exact .inl hp⟩
theorem Grows.congr {R R2 R' : Led} (h : ∀ p, p ∈ R ↔ p ∈ R2) (g : Grows R R') : Grows R2 R' :=
  ⟨fun p hp => g.1 p ((h p).mpr hp), fun p hp => (g.2 p hp).elim (fun x => .inl ((h p).mp x)) fun x => .inr fun q hq => x q ((h q).mpr hq)⟩
theorem Grows.congr' {R R2 R' : Led} (h1 : ∀ p ∈ R, p ∈ R2) (h2 : ∀ p ∈ R2, p ∈ R) (g : Grows R R') : Grows R2 R' := g.congr fun p => ⟨h1 p, h2 p⟩
theorem allLt_mem {a : Nat} : ∀ {R : Led}, AllLt a R → ∀ p ∈ R, @LT.lt Nat _ p.1 a := fun h p hp => tb_ltOf h p hp
/-- From the grown ledger of mutables `M` and frozen `R`, the frozen part. -/
theorem Grows.pullM {M R led' : Led} (g : Grows (M ++ R) led') (hR : ∀ p ∈ R, ∀ q ∈ M, p.1 ≠ q.1) :
    ∃ R', Grows R R' ∧ (∀ p ∈ R', ∀ q ∈ M, p.1 ≠ q.1) ∧ (∀ p ∈ M ++ R', p ∈ led') ∧ ∀ p ∈ led', p ∈ M ∨ p ∈ R' := by
  refine ⟨led'.filter fun p => M.all fun q => p.1 != q.1, ⟨?_, ?_⟩, ?_, ?_, ?_⟩
  · intro p hp; exact List.mem_filter.mpr ⟨g.1 p (List.mem_append.mpr (.inr hp)), by simpa using hR p hp⟩
  · intro p hp
    obtain ⟨h1, h2⟩ := List.mem_filter.mp hp
    rcases g.2 p h1 with h | h
    · rcases List.mem_append.mp h with h | h
      · have := List.all_eq_true.mp h2 p h; simp at this
      · exact .inl h
    · exact .inr fun q hq => h q (List.mem_append.mpr (.inr hq))
  · intro p hp q hq
    have := List.all_eq_true.mp (List.mem_filter.mp hp).2 q hq
    simpa using this
  · intro p hp
    rcases List.mem_append.mp hp with hp | hp
    · exact g.1 _ (List.mem_append.mpr (.inl hp))
    · exact (List.mem_filter.mp hp).1
  · intro p hp
    by_cases e : p ∈ M
    · exact .inl e
    · refine .inr (List.mem_filter.mpr ⟨hp, List.all_eq_true.mpr fun q hq => ?_⟩)
      simp only [bne_iff_ne, ne_eq]
      intro e2
      rcases g.2 p hp with h | h
      · rcases List.mem_append.mp h with h | h
        · exact e h
        · exact hR p h q hq e2
      · exact absurd (h q (List.mem_append.mpr (.inl hq))) (by rw [e2]; exact Nat.lt_irrefl _)
noncomputable def TupO (o : Obj) : Prop := o.cls = .type "tuple" ∧ ∃ its n, o.data = .seq its n
theorem TrIn.monoT {R R' : Led} (hs : ∀ p ∈ R, TupO p.2 → p ∈ R') {v : Value} {t : Tr} (h : TrIn R v t) : TrIn R' v t := by
  induction h with
  | num => exact .num
  | var h => exact .var (hs _ h ⟨rfl, _, _, rfl⟩)
  | neg h _ ih => exact .neg (hs _ h ⟨rfl, _, _, rfl⟩) ih
  | bin h _ _ i1 i2 => exact .bin (hs _ h ⟨rfl, _, _, rfl⟩) i1 i2
inductive Pt | lit (k : Int) | var | con (o : Op) (l r : Pt)
inductive PtIn (R : Led) : Value → Pt → Prop
  | lit {a : Nat} {k : Int} {t1 t2 t3 : Tok} : (a, tupOf [.str (Str.ofString "plit") t1, .str (Str.ofString "int") t2, .int k t3]) ∈ R → PtIn R (.ref a) (.lit k)
  | var {a : Nat} {t1 t2 : Tok} : (a, tupOf [.str (Str.ofString "pvar") t1, .str (Str.ofString "x") t2]) ∈ R → PtIn R (.ref a) .var
  | con {a b : Nat} {t1 t2 : Tok} {o : Op} {v1 v2 : Value} {l r : Pt} : (a, tupOf [.str (Str.ofString "pcon") t1, .str (Op.str o) t2, .ref b]) ∈ R → (b, tupOf [v1, v2]) ∈ R → PtIn R v1 l → PtIn R v2 r → PtIn R (.ref a) (.con o l r)
theorem PtIn.monoT {R R' : Led} (hs : ∀ p ∈ R, TupO p.2 → p ∈ R') {v : Value} {t : Pt} (h : PtIn R v t) : PtIn R' v t := by
  induction h with
  | lit h => exact .lit (hs _ h ⟨rfl, _, _, rfl⟩)
  | var h => exact .var (hs _ h ⟨rfl, _, _, rfl⟩)
  | con h h' _ _ i1 i2 => exact .con (hs _ h ⟨rfl, _, _, rfl⟩) (hs _ h' ⟨rfl, _, _, rfl⟩) i1 i2
theorem PtIn.mono {R R' : Led} (hs : ∀ p ∈ R, p ∈ R') {v : Value} {t : Pt} (h : PtIn R v t) : PtIn R' v t := h.monoT fun p hp _ => hs p hp
theorem PtIn.up {R R' : Led} {v : Value} {t : Pt} (h : PtIn R v t) (hs : ∀ p ∈ R, p ∈ R') : PtIn R' v t := h.mono hs
noncomputable def nodeOf : Tr → Option Pt
  | .num k => some (.lit k)
  | .var => some .var
  | .neg (.num k) => some (.lit (0 - k))
  | .neg _ => none
  | .bin o l r => match nodeOf l, nodeOf r with
    | some a, some b => if o = .plus then none else some (.con o a b)
    | _, _ => none
theorem nof1 {k : Int} : nodeOf (.num k) = some (.lit k) := rfl
theorem nof2 : nodeOf .var = some .var := rfl
theorem nof3 {k : Int} : nodeOf (.neg (.num k)) = some (.lit (0 - k)) := rfl
theorem nof4 : nodeOf (.neg .var) = none := rfl
theorem nof5 {t : Tr} : nodeOf (.neg (.neg t)) = none := rfl
theorem nof6 {o : Op} {l r : Tr} : nodeOf (.neg (.bin o l r)) = none := rfl
theorem nof7 {o : Op} {l r : Tr} : nodeOf (.bin o l r) = match nodeOf l, nodeOf r with
  | some a, some b => if o = .plus then none else some (.con o a b)
  | _, _ => none := rfl
noncomputable def NodeIs (R : Led) (v : Value) : Option Pt → Prop
  | some p => PtIn R v p
  | none => v = .none
theorem PtIn.isRef {R : Led} {v : Value} {p : Pt} (h : PtIn R v p) : ∃ a : Nat, v = .ref a := by cases h <;> exact ⟨_, rfl⟩
noncomputable def NodePost (R : Led) (q : Option Pt) (r : Value) (led' : Led) : Prop := Grows R led' ∧ NodeIs led' r q
noncomputable def NodeIH (w : World) (n : Nat) : Prop := ∀ t R v, Tr.size t < n → TrIn R v t → Calls w 445 [v] (t.size + 1) R (NodePost R (nodeOf t))
theorem NodeIH.use {w : World} {n : Nat} (h : NodeIH w n) {t : Tr} {R : Led} {v : Value} {q : Option Pt} (hv : TrIn R v t) (hq : nodeOf t = q) (hz : t.size < n) : Calls w 445 [v] (t.size + 1) R (NodePost R q) := hq ▸ h t R v hz hv
theorem Grows.consT {R R1 : Led} {a : Nat} {o : Obj} (h : ∀ p ∈ R1, @LT.lt Nat _ p.1 a) (g : Grows R R1) : Grows R ((a, o) :: R1) := Grows.trans g (Grows.cons h)
theorem Grows.andT {R R1 R2 : Led} (a : ∀ p ∈ R1, p ∈ R2) (b : ∀ p ∈ R2, p ∈ R1 ∨ ∀ q ∈ R1, @LT.lt Nat _ q.1 p.1) (g : Grows R R1) : Grows R R2 := Grows.trans g ⟨a, b⟩
local macro_rules | `(tactic| ktn_open) => sq [orT [ex "Grows.refl _", thru "And.intro" [asm, asm], thru "Grows.consT" [orT [asm, thru "allLt_mem" [asm]], one "PySem.W.tacticKtn_open" "ktn_open"], thru "Grows.andT" [asm, asm, one "PySem.W.tacticKtn_open" "ktn_open"]]]
section
variable {o : Op} {l r : Tr} {a b : Pt} {R : Led} {v : Value} {t : Tr} {q : Option Pt}
theorem node_none_l (h : nodeOf l = none) : nodeOf (.bin o l r) = none := by simp [nof1, nof2, nof3, nof4, nof5, nof6, nof7, h]
theorem node_none_r (h : nodeOf r = none) : nodeOf (.bin o l r) = none := by
  unfold nodeOf; rw [h]; cases nodeOf l <;> rfl
theorem op_plus : (Op.str o == Str.ofString "plus") = decide (o = .plus) := by cases o <;> decide
theorem node_plus (h : (Op.str o == Str.ofString "plus") = true) : nodeOf (.bin o l r) = none := by
  rw [op_plus, decide_eq_true_eq] at h; subst h
  unfold nodeOf; cases nodeOf l <;> cases nodeOf r <;> rfl
theorem node_con (h : (Op.str o == Str.ofString "plus") = false) (hl : nodeOf l = some a) (hr : nodeOf r = some b) : nodeOf (.bin o l r) = some (.con o a b) := by
  rw [op_plus, decide_eq_false_iff_not] at h
  simp [nof1, nof2, nof3, nof4, nof5, nof6, nof7, hl, hr, h]
theorem nodeIs_eq (e : nodeOf t = q) (h : NodeIs R v q) : NodeIs R v (nodeOf t) := e ▸ h
end
theorem NodeIs.use {R : Led} {r : Value} {q : Option Pt} {C : Value → Prop} (h : NodeIs R r q) (k1 : q = none → C .none) (k2 : ∀ (a : Nat) p, q = some p → PtIn R (.ref a) p → C (.ref a)) : C r := by
  cases q with
  | none => dsimp only [NodeIs] at h; subst h; exact k1 rfl
  | some p => obtain ⟨a, rfl⟩ := PtIn.isRef h; exact k2 a p rfl h
theorem nd1 {d l r : Nat} (h : d + (l + r + 1 + 1) < 900) : d + 1 + (l + 1) < 900 := by omega
theorem nd2 {d l r : Nat} (h : d + (l + r + 1 + 1) < 900) : d + 1 + (r + 1) < 900 := by omega
theorem nu1 {d l r : Nat} (h : d + 8 * (l + r + 1 + 1) < 9000) : d + 3 + 8 * (l + 1) < 9000 := by omega
theorem nu2 {d l r : Nat} (h : d + 8 * (l + r + 1 + 1) < 9000) : d + 3 + 8 * (r + 1) < 9000 := by omega
set_option maxRecDepth 100000 in
set_option maxHeartbeats 8000000 in
theorem node_step (w : World) (t : Tr) (IH : NodeIH w t.size) (R : Led) (v : Value) (hv : TrIn R v t) : Calls w 445 [v] (t.size + 1) R (NodePost R (nodeOf t)) := by
  unfold Calls
  intro p loose mean mg mb dp un gd cn cs a ccd cl outer A₀ base h₀ L m s Q E B F X N T hk hdp hun hret
  revert X; k_fill; intro X
  refine wpAny_call ?_
  rcases hv with _ | _ | ⟨hm, hv1⟩ | ⟨hm, hv1, hv2⟩
  rotate_left
  rotate_left
  · k_dflt ktr_enter
    k_steps
    cases hv1
    all_goals k_steps
    · exact hret _ _ _ _ (by assumption) (by assumption) ⟨by ktn_open, .lit (.head _)⟩
    all_goals exact hret _ _ _ _ (by assumption) (by assumption) ⟨by ktn_open, rfl⟩
  · rename_i l r
    dsimp only [sz1, sz2, sz3, sz4] at IH hdp hun
    have d1 := nd1 hdp
    have d2 := nd2 hdp
    have u1 := nu1 hun
    have u2 := nu2 hun
    k_dflt ktr_enter
    refine letA ?_
    intro Ak
    have mc : MarkC 445 := trivial
    k_steps
    unfold Stop
    rename News _ _ _ _ => N9
    rename Fr _ _ _ _ => F9
    refine Calls.use (NodeIH.use IH hv1 rfl (by omega)) (by k_asm) F9 (by k_asm) N9 (by k_asm) ?_ ?_ ?_ ?_
    · exact rfl
    · ktr_room
    · ktr_units
    clear F9 N9
    intro r1 led1 h1 tk1 F9 N9 P1
    have hs1 := P1.1.1
    k_steps
    unfold Stop
    rename News _ _ _ _ => N8
    rename Fr _ _ _ _ => F8
    refine Calls.use (NodeIH.use IH (hv2.mono hs1) rfl (by omega)) (by k_asm) F8 (by k_asm) N8 (by k_asm) ?_ ?_ ?_ ?_
    · exact rfl
    · ktr_room
    · ktr_units
    clear F8 N8
    intro r2 led2 h2 tk2 F9 N9 P2
    k_steps
    rename News _ _ _ _ => N3
    rename Fr _ _ _ _ => F3
    have hs2 := P2.1.1
    have hG := P1.1.trans P2.1
    have hGa := hG.1
    have hGb := hG.2
    revert F3 N3
    apply NodeIs.use P1.2
    · intro hql F3 N3
      k_steps
      exact hret _ _ _ _ (by assumption) (by assumption) ⟨by ktn_open, nodeIs_eq (node_none_l hql) rfl⟩
    intro a1 q1 hql hp1 F3 N3
    k_steps
    revert F3 N3
    apply NodeIs.use P2.2
    · intro hqr F3 N3
      k_steps
      exact hret _ _ _ _ (by assumption) (by assumption) ⟨by ktn_open, nodeIs_eq (node_none_r hqr) rfl⟩
    intro a2 q2 hqr hp2 F3 N3
    k_steps
    all_goals first
      | exact hret _ _ _ _ (by assumption) (by assumption) ⟨by ktn_open, nodeIs_eq (node_plus (by assumption)) rfl⟩
      | exact hret _ _ _ _ (by assumption) (by assumption) ⟨by ktn_open, nodeIs_eq (node_con (by assumption) hql hqr) (.con (by k_mem) (by k_mem) (PtIn.up (PtIn.up hp1 hs2) (by intro p hp; k_mem)) (PtIn.up hp2 (by intro p hp; k_mem)))⟩
  all_goals k_dflt ktr_enter
  all_goals refine letA ?_
  all_goals intro Ak
  all_goals k_steps
  · exact hret _ _ _ _ (by assumption) (by assumption) ⟨by ktn_open, .lit (.head _)⟩
  · exact hret _ _ _ _ (by assumption) (by assumption) ⟨by ktn_open, .var (.head _)⟩
theorem node_ok (w : World) (t : Tr) : ∀ (R : Led) (v : Value), TrIn R v t → Calls w 445 [v] (t.size + 1) R (NodePost R (nodeOf t)) := by
  have all : ∀ n t, Tr.size t < n → ∀ (R : Led) (v : Value), TrIn R v t → Calls w 445 [v] (t.size + 1) R (NodePost R (nodeOf t)) := by
    intro n
    induction n with
    | zero => intro t h; exact absurd h (Nat.not_lt_zero _)
    | succ n ih => exact fun t h R v hv => node_step w t (fun t' R' v' h' hv' => ih t' (Nat.lt_of_lt_of_le h' (Nat.le_of_lt_succ h)) R' v' hv') R v hv
  exact all _ t (Nat.lt_succ_self _)
noncomputable def CompEnd (h₀ : Heap) (L : Addr) (m : Loc) (I C D : Nat) (oI oC : Obj) (ys : Array Value) (k : Nat) (J : Array Value → Led → Prop) (s : Shared) (y : Value) (s' : Shared) : Prop :=
  ∃ h' tk' nw', s' = { s with heap := h', toks := tk' } ∧ Fr h₀ L h' m ∧ News h₀ L h' ((C, oC) :: (D, listOf ys k) :: (I, oI) :: nw') ∧ (∀ p ∈ nw', p.1 ≠ C ∧ p.1 ≠ D ∧ p.1 ≠ I) ∧ J (ys.push y) nw'
noncomputable def CompSkip (h₀ : Heap) (L : Addr) (m : Loc) (I C D : Nat) (oI oC : Obj) (ys : Array Value) (k : Nat) (J : Array Value → Led → Prop) (s : Shared) (s' : Shared) : Prop :=
  ∃ h' tk' nw', s' = { s with heap := h', toks := tk' } ∧ Fr h₀ L h' m ∧ News h₀ L h' ((C, oC) :: (D, listOf ys k) :: (I, oI) :: nw') ∧ (∀ p ∈ nw', p.1 ≠ C ∧ p.1 ≠ D ∧ p.1 ≠ I) ∧ J ys nw'
inductive CSt (h₀ : Heap) (L : Addr) (m : Loc) (l I C D : Nat) (vs : Array Value) (J : Nat → Array Value → Led → Prop) (s : Shared) : Nat → Shared → Prop
  | mk (h' tk mC ys k nw i) : i ≤ vs.size → h'.IsListIter I l i → h'.Ns C mC → h'.get? D = some (listOf ys k) → Fr h₀ L h' m → News h₀ L h' nw → (∀ p ∈ nw, p.1 ≠ C ∧ p.1 ≠ D ∧ p.1 ≠ I) → J i ys nw → CSt h₀ L m l I C D vs J s (vs.size + 1 - i) { s with heap := h', toks := tk }
section
variable {prog : Program} {w : World} {A : Around} {E : Value → Shared → Prop} {s : Shared} {env : Env} {h₀ : Heap} {L : Addr} {x : Str} {Q : Value → Shared → Prop}
theorem CSt.use {m : Loc} {l I C D : Nat} {vs : Array Value} {J : Nat → Array Value → Led → Prop} {q : Nat} {s' : Shared} {K : Nat → Shared → Prop} (h : CSt h₀ L m l I C D vs J s q s') (k : ∀ h' tk mC ys k nw i, i ≤ vs.size → h'.IsListIter I l i → h'.Ns C mC → h'.get? D = some (listOf ys k) → Fr h₀ L h' m → News h₀ L h' nw → (∀ p ∈ nw, p.1 ≠ C ∧ p.1 ≠ D ∧ p.1 ≠ I) → J i ys nw → K (vs.size + 1 - i) { s with heap := h', toks := tk }) : K q s' := by
  obtain ⟨h', tk, mC, ys, n, nw, i, a, b, c, d, e, f, g, j⟩ := h
  exact k h' tk mC ys n nw i a b c d e f g j
theorem comp_RR {elt iter : Expr} {px : Pos} {ifs : List Expr} {scope : Scope} {cl : List (Str × Addr)} {pos : Pos} {l : Nat} {vs : Array Value} {n : Nat} {m : Loc} {news : Led} (J : Nat → Array Value → Led → Prop) {RR : Value → Addr → Result → Shared → Prop} (hh : A.handled = none)
    (hcell : ∀ y ∈ scope.names, y.2 ≠ .cell) (hkind : scope.kind = .function) (hx : scope.names.lookup x = some .local)
    (F : Fr h₀ L s.heap m) (N : News h₀ L s.heap news) (hl : (l, listOf vs n) ∈ news) (hj : J 0 #[] news) (hjl : ∀ i ys nw, J i ys nw → (l, listOf vs n) ∈ nw) (hjz : ∀ i ys nw, J i ys nw → ys.size ≤ sizeLine)
    (turn : ∀ (C D I : Nat) oC oI k i v ys nw h tk mC (E' : Value → Shared → Prop), vs[i]? = some v → J i ys nw → (∀ p ∈ nw, p.1 ≠ C ∧ p.1 ≠ D ∧ p.1 ≠ I) → @Ne Nat C D → @Ne Nat C I → @Ne Nat D I → Fr h₀ L h m → News h₀ L h ((C, oC) :: (D, listOf ys k) :: (I, oI) :: nw) → (∀ h' : Heap, h'.get? C = some oC → h'.Ns C mC) → mC x = some v →
      wpAny (model prog w) A (forIn ifs true fun c r => if r = true then do let ok ← isTrue c (compEnvC scope cl C env) (eval c (compEnvC scope cl C env)); pure (ForInStep.yield ok) else pure (ForInStep.yield r))
        (fun ok s₃ => if ok = true then wpAny (model prog w) A (eval elt (compEnvC scope cl C env)) (CompEnd h₀ L m I C D oI oC ys k (J (i + 1)) s) E' s₃ else CompSkip h₀ L m I C D oI oC ys k (J (i + 1)) s s₃) E' { s with heap := h, toks := tk })
    (done : ∀ (D C : Nat) ys k nw h tk mC, J vs.size ys nw → Fr h₀ L h m → News h₀ L h ((D, listOf ys k) :: nw) → (∀ p ∈ nw, p.1 ≠ C ∧ p.1 ≠ D) → (∀ p ∈ news, @LT.lt Nat _ p.1 D) → h.Ns C mC → @Ne Nat C L → @Ne Nat D C → @Ne Nat D L → h₀.get? C = none → RR (.ref D) C (.ok .next) { s with heap := h, toks := tk }) :
    wpAny (model prog w) A (pyIter (.ref l)) (fun it s₂ => wpAny (model prog w) A (newList []) (fun acc s₃ => wpAny (model prog w) A (newFunctionEnv scope env.globals cl [] env.qual none .none (some env)) (fun cenv s₄ =>
      codeAny (model prog w) A (.compStart (.ListComp elt [⟨.Name x px, iter, ifs, 0⟩] scope pos) 0 it acc { cenv with scope := relabel scope env }) (RR acc cenv.locals) s₄) E s₃) E s₂) E s := by
  have hls : s.heap.IsList l vs := listOf_isList (N _ hl).1
  have hlt : l < s.heap.objs.size := Heap.lt_size (N _ hl).1
  refine wpAny_pyIter_list hls ?_
  generalize hI : s.heap.objs.size = I at *
  have W := Walks.list (prog := prog) (w := w) hh I l (Nat.ne_of_lt hlt) vs
  generalize hH1 : s.heap.push { cls := .type "list_iterator", data := .fields #[.ref l, .int 0 0] } = H1
  have sz1 : H1.objs.size = I + 1 := by rw [← hH1, Heap.size_push, hI]
  have k1 : ∀ b o, s.heap.get? b = some o → H1.get? b = some o := fun b o e => by rw [← hH1]; exact Heap.get?_push_of_some _ e
  have gI : H1.get? I = some { cls := .type "list_iterator", data := .fields #[.ref l, .int 0 0] } := by rw [← hH1, ← hI]; exact Heap.get?_push_size _ rfl
  have st1 : H1.IsListIter I l 0 ∧ H1.IsList l vs := ⟨⟨_, gI, rfl, rfl⟩, hls.at fun o e => k1 _ o e⟩
  refine wpAny_newObj_type (wpAny_newFunctionEnv hcell (by intro y hy; simp at hy) (fun h₁ hns₁ hsb₁ => ?_) hkind)
  dsimp only at hns₁ hsb₁ ⊢
  generalize hH2 : H1.push { cls := .type "list", dict := none, data := .seq ([] : List Value).toArray } = H2 at hns₁ hsb₁ ⊢
  generalize hD : H1.objs.size = D at *
  have sz2 : H2.objs.size = D + 1 := by rw [← hH2, Heap.size_push, hD]
  have k2 : ∀ b o, H1.get? b = some o → H2.get? b = some o := fun b o e => by rw [← hH2]; exact Heap.get?_push_of_some _ e
  have gD : H2.get? D = some (listOf #[] 0) := by rw [← hH2, ← hD]; exact Heap.get?_push_size _ rfl
  generalize hC : H2.objs.size = C at *
  have hDC : D ≠ C := by rw [sz2]; exact Nat.ne_of_lt (Nat.lt_succ_self _)
  have hIC : I ≠ C := by rw [sz2, sz1]; exact Nat.ne_of_lt (Nat.lt_trans (Nat.lt_succ_self _) (Nat.lt_succ_self _))
  have hID : I ≠ D := by rw [sz1]; exact Nat.ne_of_lt (Nat.lt_succ_self _)
  have bel : ∀ (b : Nat) o, s.heap.get? b = some o → @LT.lt Nat _ b I := fun b o e => hI ▸ Heap.lt_size e
  have k3 : ∀ b o, b ≠ C → H2.get? b = some o → h₁.get? b = some o := fun b o hb e => hsb₁.extBut b o hb (Heap.get?_push_of_some _ e)
  have old : ∀ b o, s.heap.get? b = some o → h₁.get? b = some o := fun b o e => k3 b o (by have := bel b o e; rw [sz2, sz1]; exact Nat.ne_of_lt (Nat.lt_trans this (Nat.lt_trans (Nat.lt_succ_self _) (Nat.lt_succ_self _)))) (k2 b o (k1 b o e))
  have F1 : Fr h₀ L h₁ m := F.keeps old
  have hLI : @LT.lt Nat _ L I := hI ▸ F.ns.lt
  have hLC : C ≠ L := by rw [sz2, sz1]; exact Nat.ne_of_gt (Nat.lt_trans hLI (Nat.lt_trans (Nat.lt_succ_self _) (Nat.lt_succ_self _)))
  have hLD : D ≠ L := by rw [sz1]; exact Nat.ne_of_gt (Nat.lt_trans hLI (Nat.lt_succ_self _))
  have hLI' : I ≠ L := Nat.ne_of_gt hLI
  have hab := F.above
  have nn : ∀ a, I ≤ a → h₀.get? a = none := fun a ha => Heap.get?_none_of_le (Nat.le_trans (Nat.le_of_lt (Nat.lt_of_le_of_lt hab hLI)) ha)
  have nI : h₀.get? I = none := nn I (Nat.le_refl _)
  have nD : h₀.get? D = none := nn D (by rw [sz1]; exact Nat.le_succ _)
  have nC : h₀.get? C = none := nn C (by rw [sz2, sz1]; exact Nat.le_trans (Nat.le_succ _) (Nat.le_succ _))
  have N1 : News h₀ L h₁ news := N.grown old
  have hnw : ∀ p ∈ news, p.1 ≠ C ∧ p.1 ≠ D ∧ p.1 ≠ I := fun p hp => by
    have := bel _ _ (N p hp).1
    refine ⟨?_, ?_, ?_⟩
    · rw [sz2, sz1]; exact Nat.ne_of_lt (Nat.lt_trans this (Nat.lt_trans (Nat.lt_succ_self _) (Nat.lt_succ_self _)))
    · rw [sz1]; exact Nat.ne_of_lt (Nat.lt_trans this (Nat.lt_succ_self _))
    · exact Nat.ne_of_lt this
  have hltD : ∀ p ∈ news, @LT.lt Nat _ p.1 D := fun p hp => by have := bel _ _ (N p hp).1; rw [sz1]; exact Nat.lt_trans this (Nat.lt_succ_self _)
  have loop : codeAny (model prog w) A (.compLoop (.ListComp elt [⟨.Name x px, iter, ifs, 0⟩] scope pos) 0 (.ref I) (.ref D) (compEnvC scope cl C env))
      (RR (.ref D) C) { s with heap := h₁, toks := s.toks + ([] : List (Str × Value)).length } := by
    refine codeAny_compLoop_tests
      (CSt h₀ L m l I C D vs J s) ?_ (vs.size + 1)
      ⟨h₁, _, _, #[], 0, news, 0, Nat.zero_le _, st1.1.at (fun o e => k3 I o hIC (k2 I o e)), hns₁, k3 D _ hDC gD, F1, N1, hnw, hj⟩
    intro q s' hS
    apply CSt.use hS
    intro h' tk mC ys k nw i hi hit hns hgD F' N' hne hJ
    have hlm := hjl _ _ _ hJ
    have hl' : h'.IsList l vs := listOf_isList (N' _ hlm).1
    refine (Nat.lt_or_eq_of_le hi).elim (fun hlt' => ?_) fun hin => ?_
    rotate_left
    · have hv : vs[i]? = none := Array.getElem?_eq_none_iff.mpr (Nat.le_of_eq hin.symm)
      refine wpAny_pyNext_list_end hh hit hl' hv fun h₂ he₂ => ?_
      have hns₂ : h₂.Ns C mC := hns.extBut he₂ (Ne.symm hIC)
      refine done D C ys k nw h₂ _ mC (hin ▸ hJ) ⟨F'.ns.at' fun o e => he₂ _ o (Ne.symm hLI') e, fun b o e => he₂ b o (fun q => by rw [q, nI] at e; cases e) (F'.keep b o e), F'.above⟩ ?_ (fun p hp => ⟨(hne p hp).1, (hne p hp).2.1⟩) hltD hns₂ hLC hDC hLD nC
      intro p hp
      rcases List.mem_cons.mp hp with rfl | hp
      · exact ⟨he₂ _ _ (Ne.symm hID) hgD, hLD, nD⟩
      · exact ⟨he₂ _ _ (hne p hp).2.2 (N' p hp).1, (N' p hp).2⟩
    · generalize hve : vs[i] = v
      have hv : vs[i]? = some v := hve ▸ Array.getElem?_eq_getElem hlt'
      refine wpAny_pyNext_list_item hit hl' hv fun h₂ hit₂ hs₂ => ?_
      have e2 : ∀ b o, b ≠ I → h'.get? b = some o → h₂.get? b = some o := fun b o hb e => hs₂.extBut b o hb e
      refine wpAny_assign_Name (wpAny_storeName_local (lookup_relabel_local hx) (hns.at' fun o e => e2 C o (Ne.symm hIC) e) (fun h₃ hn₃ hs₃ => ?_) (by simp [compEnvC, relabel, hkind]))
      have e3 : ∀ b o, b ≠ C → h₂.get? b = some o → h₃.get? b = some o := fun b o hb e => hs₃.extBut b o hb e
      obtain ⟨oC, esC, epC, hoC, hoC2⟩ := id hn₃
      obtain ⟨oI, hoI, hoI2⟩ := id hit₂
      have F₃ : Fr h₀ L h₃ m := ⟨F'.ns.at' fun o e => e3 L o (Ne.symm hLC) (e2 L o (Ne.symm hLI') e),
        fun b o e => e3 b o (fun q => by rw [q, nC] at e; cases e) (e2 b o (fun q => by rw [q, nI] at e; cases e) (F'.keep b o e)), F'.above⟩
      have gD₃ : h₃.get? D = some (listOf ys k) := e3 D _ hDC (e2 D _ (Ne.symm hID) hgD)
      have N₃ : News h₀ L h₃ ((C, oC) :: (D, listOf ys k) :: (I, oI) :: nw) := by
        intro p hp
        rcases List.mem_cons.mp hp with rfl | hp
        · exact ⟨hoC, hLC, nC⟩
        rcases List.mem_cons.mp hp with rfl | hp
        · exact ⟨gD₃, hLD, nD⟩
        rcases List.mem_cons.mp hp with rfl | hp
        · exact ⟨e3 I _ hIC hoI, hLI', nI⟩
        · have z := hne p hp
          exact ⟨e3 _ _ z.1 (e2 _ _ z.2.2 (N' p hp).1), (N' p hp).2⟩
      have next : ∀ s₆ ys' k', CompSkip h₀ L m I C D oI oC ys' k' (J (i + 1)) s s₆ → ∃ q', q' < vs.size + 1 - i ∧ CSt h₀ L m l I C D vs J s q' s₆ := by
        rintro s₆ ys' k' ⟨h₆, tk₆, nw₆, rfl, F₆, N₆, hne₆, hJ₆⟩
        refine ⟨vs.size + 1 - (i + 1), Nat.sub_lt_sub_left (Nat.lt_succ_of_lt hlt') (Nat.lt_succ_self i), h₆, tk₆, _, ys', k', nw₆, i + 1, hlt', ⟨oI, (N₆ _ (.tail _ (.tail _ (.head _)))).1, hoI2⟩, ⟨oC, esC, epC, (N₆ _ (.head _)).1, hoC2⟩, (N₆ _ (.tail _ (.head _))).1, F₆, fun p hp => N₆ p (.tail _ (.tail _ (.tail _ hp))), hne₆, hJ₆⟩
      refine wpAny_mono (turn C D I oC oI k i v ys nw h₃ _ _ _ hv hJ hne (Ne.symm hDC) (Ne.symm hIC) (Ne.symm hID) F₃ N₃ (fun h'' e => ⟨oC, esC, epC, e, hoC2⟩) (by simp)) (fun ok s₅ h₅ => ?_) fun _ _ e => e
      cases ok with
      | false =>
        simp only [Bool.false_eq_true, if_false] at h₅ ⊢
        exact next _ ys k h₅
      | true =>
        simp only [if_true] at h₅ ⊢
        refine wpAny_mono h₅ (fun y s₆ h₆ => ?_) fun _ _ e => e
        obtain ⟨h₆, tk₆, nw₆, rfl, F₆, N₆, hne₆, hJ₆⟩ := h₆
        refine wpAny_list_append_plain (hsz := hjz _ _ _ hJ) (items := ys) ⟨k, (N₆ _ (.tail _ (.head _))).1⟩ fun h₇ hl₇ hs₇ => ?_
        obtain ⟨k', hk'⟩ := hl₇
        refine next _ (ys.push y) k' ⟨h₇, tk₆, nw₆, rfl, F₆.change hs₇ hLD nD, ?_, hne₆, hJ₆⟩
        intro p hp
        rcases List.mem_cons.mp hp with rfl | hp
        · exact ⟨hs₇.extBut _ _ (Ne.symm hDC) (N₆ _ (.head _)).1, hLC, nC⟩
        rcases List.mem_cons.mp hp with rfl | hp
        · exact ⟨hk', hLD, nD⟩
        rcases List.mem_cons.mp hp with rfl | hp
        · exact ⟨hs₇.extBut _ _ hID (N₆ _ (.tail _ (.tail _ (.head _)))).1, hLI', nI⟩
        · exact ⟨hs₇.extBut _ _ (hne₆ p hp).2.1 (N₆ p (.tail _ (.tail _ (.tail _ hp)))).1, (N₆ p (.tail _ (.tail _ (.tail _ hp)))).2⟩
  exact codeAny_compStart_list loop (W.self 0 _ _ _ ⟨st1.1.at (fun o e => k3 I o hIC (k2 I o e)), hls.at fun o e => old l o e⟩ loop)

/-- What a comprehension over an own list asks of a turn. -/
noncomputable def CompTurns (prog : Program) (w : World) (A : Around) (env : Env) (scope : Scope) (cl : List (Str × Addr)) (elt : Expr) (ifs : List Expr) (h₀ : Heap) (L : Addr) (x : Str) (vs : Array Value) (m : Loc) (J : Nat → Array Value → Led → Prop) (s : Shared) : Prop :=
  ∀ (C D I : Nat) oC oI k i v ys nw h tk mC (E' : Value → Shared → Prop), vs[i]? = some v → J i ys nw → (∀ p ∈ nw, p.1 ≠ C ∧ p.1 ≠ D ∧ p.1 ≠ I) → @Ne Nat C D → @Ne Nat C I → @Ne Nat D I → Fr h₀ L h m → News h₀ L h ((C, oC) :: (D, listOf ys k) :: (I, oI) :: nw) → (∀ h' : Heap, h'.get? C = some oC → h'.Ns C mC) → mC x = some v →
      wpAny (model prog w) A (forIn ifs true fun c r => if r = true then do let ok ← isTrue c (compEnvC scope cl C env) (eval c (compEnvC scope cl C env)); pure (ForInStep.yield ok) else pure (ForInStep.yield r))
        (fun ok s₃ => if ok = true then wpAny (model prog w) A (eval elt (compEnvC scope cl C env)) (CompEnd h₀ L m I C D oI oC ys k (J (i + 1)) s) E' s₃ else CompSkip h₀ L m I C D oI oC ys k (J (i + 1)) s s₃) E' { s with heap := h, toks := tk }
/-- A comprehension, once its source is the own list `l`. -/
theorem comp_eval {elt iter : Expr} {px : Pos} {ifs : List Expr} {scope : Scope} {cl : List (Str × Addr)} {pos : Pos}
    (hclos : closureFor scope env = pure cl) (hcell : ∀ y ∈ scope.names, y.2 ≠ .cell) (hkind : scope.kind = .function) (hnames : ∀ y ∈ scope.names, y.2 = .local → scope.names.lookup y.1 = some .local) (hx : scope.names.lookup x = some .local) (hh : A.handled = none)
    (h : wpAny (model prog w) A (eval iter env) (fun xv s₁ => ∃ (l : Nat) (vs : Array Value) (n : Nat) (m : Loc) (news : Led) (J : Nat → Array Value → Led → Prop), xv = .ref l ∧ Fr h₀ L s₁.heap m ∧ News h₀ L s₁.heap news ∧ (l, listOf vs n) ∈ news ∧ J 0 #[] news ∧ (∀ i ys nw, J i ys nw → (l, listOf vs n) ∈ nw) ∧ (∀ i ys nw, J i ys nw → ys.size ≤ sizeLine) ∧
      CompTurns prog w A env scope cl elt ifs h₀ L x vs m J s₁ ∧
      (∀ (D : Nat) ys k nw h tk, J vs.size ys nw → Fr h₀ L h m → News h₀ L h ((D, listOf ys k) :: nw) → (∀ p ∈ nw, p.1 ≠ D) → (∀ p ∈ news, @LT.lt Nat _ p.1 D) → Q (.ref D) { s₁ with heap := h, toks := tk })) E s)
    (hs : ∀ x, foldedSetIterable iter env x = pure x := by intro _; rfl) :
    wpAny (model prog w) A (eval (.ListComp elt [⟨.Name x px, iter, ifs, 0⟩] scope pos) env) Q E s := by
  rw [eval_ListComp]
  refine wpAny_comprehension_free (use := none) rfl hs hclos hkind hnames (wpAny_mono h (fun xv s₁ h₁ => ?_) fun _ _ e => e)
  obtain ⟨l, vs, n, m, news, J, rfl, F, N, hl, hj, hjl, hjz, turn, done⟩ := h₁
  refine comp_RR (RR := fun acc C => compPost (model prog w) A E none Q acc C) J hh hcell hkind hx F N hl hj hjl hjz turn ?_
  intro D C ys k nw h tk mC hJ F' N' hne hlt hns hCL hDC hDL nC
  refine ⟨mC, hns, fun h₃ hs₃ => done D ys k nw h₃ tk hJ (F'.change hs₃ hCL nC) ?_ (fun p hp => (hne p hp).2) hlt⟩
  intro p hp
  rcases List.mem_cons.mp hp with rfl | hp
  · exact ⟨hs₃.extBut _ _ hDC (N' _ (.head _)).1, (N' _ (.head _)).2⟩
  · exact ⟨hs₃.extBut _ _ (hne p hp).1 (N' p (.tail _ hp)).1, (N' p (.tail _ hp)).2⟩
theorem comp_assign {elt iter : Expr} {px py : Pos} {y : Str} {ifs : List Expr} {scope : Scope} {cl : List (Str × Addr)} {pos spos : Pos} {Q : Flow → Shared → Prop}
    (hsw : swapsWith (.ListComp elt [⟨.Name x px, iter, ifs, 0⟩] scope pos) (some (.Name y py)) spos.line env = pure true)
    (hclos : closureFor scope env = pure cl) (hcell : ∀ y ∈ scope.names, y.2 ≠ .cell) (hkind : scope.kind = .function) (hnames : ∀ y ∈ scope.names, y.2 = .local → scope.names.lookup y.1 = some .local) (hx : scope.names.lookup x = some .local) (hh : A.handled = none)
    (hy : env.kindOf y = some .local) (hp : (env.scope.kind == .class || (env.scope.kind == .module && env.locals != env.globals)) = false)
    (h : wpAny (model prog w) A (eval iter env) (fun xv s₁ => ∃ (l : Nat) (vs : Array Value) (n : Nat) (m : Loc) (news : Led) (J : Nat → Array Value → Led → Prop), xv = .ref l ∧ Fr h₀ env.locals s₁.heap m ∧ News h₀ env.locals s₁.heap news ∧ (l, listOf vs n) ∈ news ∧ J 0 #[] news ∧ (∀ i ys nw, J i ys nw → (l, listOf vs n) ∈ nw) ∧ (∀ i ys nw, J i ys nw → ys.size ≤ sizeLine) ∧
      CompTurns prog w A env scope cl elt ifs h₀ env.locals x vs m J s₁ ∧
      (∀ (D : Nat) ys k nw h tk, J vs.size ys nw → Fr h₀ env.locals h (fun z => if z = y then some (.ref D) else m z) → News h₀ env.locals h ((D, listOf ys k) :: nw) → (∀ p ∈ nw, p.1 ≠ D) → (∀ p ∈ news, @LT.lt Nat _ p.1 D) → Q .next { s₁ with heap := h, toks := tk })) E s)
    (hs : ∀ x, foldedSetIterable iter env x = pure x := by intro _; rfl) :
    wpAny (model prog w) A (exec (.Assign [.Name y py] (.ListComp elt [⟨.Name x px, iter, ifs, 0⟩] scope pos) spos) env) Q E s := by
  rw [exec_Assign_Name_used _ _ _ _ hsw]
  refine wpAny_bind (wpAny_standAt (wpAny_bind ?_))
  show wpAny _ A (do let _ ← comprehension (.ListComp elt [⟨.Name x px, iter, ifs, 0⟩] scope pos) scope env _ (newList []) false (eval iter env) (some (assign (.Name y py) env))) _ _ s
  refine wpAny_bind (wpAny_mono (wpAny_comprehension_free (use := some (assign (.Name y py) env)) (Q := fun _ s' => Q .next s') rfl hs hclos hkind hnames
    (wpAny_mono h (fun xv s₁ h₁ => ?_) fun _ _ e => e)) (fun _ s' hq => wpAny_pure (wpAny_pure hq)) fun _ _ e => e)
  obtain ⟨l, vs, n, m, news, J, rfl, F, N, hl, hj, hjl, hjz, turn, done⟩ := h₁
  refine comp_RR (RR := fun acc C => compPost (model prog w) A E (some (assign (.Name y py) env)) (fun _ s' => Q .next s') acc C) J hh hcell hkind hx F N hl hj hjl hjz turn ?_
  intro D C ys k nw h tk mC hJ F' N' hne hlt hns hCL hDC hDL nC
  show wpAny _ A (assign (.Name y py) env (.ref D)) _ _ _
  refine wpAny_assign_Name (wpAny_storeName_local hy F'.ns (fun h₂ hn₂ hs₂ => ?_) hp)
  refine ⟨mC, hns.sameBut hs₂ hCL, fun h₃ hs₃ => ?_⟩
  have F₂ := F'.set hn₂ hs₂
  have N₂ := N'.set hs₂
  refine done D ys k nw h₃ _ hJ (F₂.change hs₃ hCL nC) ?_ (fun p hp => (hne p hp).2) hlt
  intro p hp
  rcases List.mem_cons.mp hp with rfl | hp
  · exact ⟨hs₃.extBut _ _ hDC (N₂ _ (.head _)).1, (N₂ _ (.head _)).2⟩
  · exact ⟨hs₃.extBut _ _ (hne p hp).1 (N₂ p (.tail _ hp)).1, (N₂ p (.tail _ hp)).2⟩
end
section
variable {prog : Program} {w : World} {A : Around} {E : Value → Shared → Prop} {s : Shared} {env : Env} {h₀ : Heap} {x : Str} {px : Pos} {body : List Stmt} {Q : Flow → Shared → Prop}
/-- The end of a turn of a for loop with iterator `I` whose target is the cell `c`. -/
noncomputable def TurnPostC (h₀ : Heap) (L : Addr) (I c : Nat) (oI : Obj) (J : Loc → Led → Prop) (s : Shared) (Q : Flow → Shared → Prop) (f : Flow) (s' : Shared) : Prop :=
  match f with
  | .ret v => Q (.ret v) s'
  | .brk => Q .next s'
  | _ => ∃ h' tk' m₂ oc news₂ v₀, s' = { s with heap := h', toks := tk' } ∧ Fr h₀ L h' m₂ ∧ News h₀ L h' ((c, oc) :: (I, oI) :: news₂) ∧ oc.data = .cell v₀ ∧ (∀ p ∈ news₂, p.1 ≠ I ∧ p.1 ≠ c) ∧ J m₂ news₂
theorem loopc_walks {I c : Nat} {fp : List Addr} {n : Nat} {P : Nat → Value → Prop} {St : Nat → Heap → Prop} {m₀ : Loc} {news : Led} {oc : Obj} {v₀ : Option Value} (J : Nat → Loc → Led → Prop)
    (hk : env.scope.kind = .function) (hx : env.kindOf x = some .cell) (hcl : env.cells.lookup x = some c) (hE : PassesOwn (model prog w) A env E)
    (W : Walks prog w A I fp [I] n P St) (hI : h₀.get? I = none) (hIL : I ≠ env.locals) (hIc : I ≠ c) (hcf : c ∉ fp) (hnI : ∀ p ∈ news, p.1 ≠ I ∧ p.1 ≠ c) (hst : St 0 s.heap) (hstI : ∀ i h, St i h → ∃ o, h.get? I = some o ∧ o.cls ≠ .type "tuple")
    (F : Fr h₀ env.locals s.heap m₀) (N : News h₀ env.locals s.heap ((c, oc) :: news)) (hoc : oc.data = .cell v₀) (hj : J 0 m₀ news)
    (kl : Led) (hkl : ∀ i m news, J i m news → ∀ p ∈ kl, p ∈ news) (hfk : ∀ b ∈ fp, b ≠ I → ∃ o, (b, o) ∈ kl)
    (turn : ∀ i v m₁ news₁ h tk oI oc, i < n → P i v → J i m₁ news₁ → (∀ p ∈ news₁, p.1 ≠ I ∧ p.1 ≠ c) → Fr h₀ env.locals h m₁ → News h₀ env.locals h ((c, oc) :: (I, oI) :: news₁) → oc.data = .cell (some v) → oI.cls ≠ .type "tuple" →
      wpAny (model prog w) A (execs body env) (TurnPostC h₀ env.locals I c oI (J (i + 1)) s Q) E { s with heap := h, toks := tk })
    (done : ∀ m₁ news₁ h tk oc v₀, J n m₁ news₁ → Fr h₀ env.locals h m₁ → News h₀ env.locals h ((c, oc) :: news₁) → oc.data = .cell v₀ → (∀ p ∈ news₁, p.1 ≠ c) → Q .next { s with heap := h, toks := tk }) :
    codeAny (model prog w) A (.forLoop (.Name x px) (.ref I) body [] env) (fun r s' => match r with | .ok f => Q f s' | .error e => cameBackBy (model prog w) A env E e s') s := by
  refine codeAny_forLoop
    (fun k s' => ∃ h' tk m' news' i oc v₀, s' = { s with heap := h', toks := tk } ∧ St i h' ∧ Fr h₀ env.locals h' m' ∧ News h₀ env.locals h' ((c, oc) :: news') ∧ oc.data = .cell v₀ ∧ (∀ p ∈ news', p.1 ≠ I ∧ p.1 ≠ c) ∧ J i m' news' ∧ i ≤ n ∧ k = n + 1 - i) ?_ (n + 1)
    ⟨s.heap, s.toks, m₀, news, 0, oc, v₀, rfl, hst, F, N, hoc, hnI, hj, Nat.zero_le _, rfl⟩
  rintro k s' ⟨h', tk, m', news', i, oc, v₀, rfl, hst', F', N', hoc, hne, hJ, hi, rfl⟩
  have e1 : ∀ h₁ : Heap, (∀ b o, b ∉ [I] → h'.get? b = some o → h₁.get? b = some o) → Fr h₀ env.locals h₁ m' ∧ News h₀ env.locals h₁ ((c, oc) :: news') := fun h₁ hk₁ => by
    have k1 : ∀ b o, b ≠ I → h'.get? b = some o → h₁.get? b = some o := fun b o hb e => hk₁ b o (fun q => hb (List.mem_singleton.mp q)) e
    refine ⟨⟨F'.ns.at' fun o e => k1 _ o (Ne.symm hIL) e, fun b o e => k1 b o (fun q => by rw [q, hI] at e; cases e) (F'.keep b o e), F'.above⟩, fun p hp => ?_⟩
    rcases List.mem_cons.mp hp with rfl | hp
    · exact ⟨k1 _ _ (Ne.symm hIc) (N' _ (.head _)).1, (N' _ (.head _)).2⟩
    · exact ⟨k1 _ _ (hne p hp).1 (N' p (.tail _ hp)).1, (N' p (.tail _ hp)).2⟩
  by_cases hlt : i < n
  · refine W.item i _ _ _ hlt hst' fun v h₁ tk₁ hP hst₁ hk₁ => ?_
    obtain ⟨F₁, N₁⟩ := e1 h₁ hk₁
    have hm := N₁ _ (.head _)
    refine wpAny_assign_Name (wpAny_storeName_cell hk hx hcl ⟨oc, hm.1, hoc⟩ fun h₂ hv₂ hs₂ => ?_)
    obtain ⟨oc₂, hoc₂, hd₂⟩ := hv₂
    have F₂ : Fr h₀ env.locals h₂ m' := F₁.change hs₂ hm.2.1 hm.2.2
    have hst₂ : St (i + 1) h₂ := W.frame _ _ _ hst₁ fun b hb o e => hs₂.extBut b o (fun q => hcf (q ▸ hb)) e
    obtain ⟨oI, hoI, hIc9⟩ := hstI _ _ hst₂
    have N₂ : News h₀ env.locals h₂ ((c, oc₂) :: (I, oI) :: news') := by
      intro p hp
      rcases List.mem_cons.mp hp with rfl | hp
      · exact ⟨hoc₂, hm.2⟩
      rcases List.mem_cons.mp hp with rfl | hp
      · exact ⟨hoI, hIL, hI⟩
      · exact ⟨hs₂.extBut _ _ (hne p hp).2 (N₁ p (.tail _ hp)).1, (N₁ p (.tail _ hp)).2⟩
    refine wpAny_passesOwn hE (wpAny_mono (turn i v m' news' h₂ _ oI oc₂ hlt hP hJ hne F₂ N₂ hd₂ hIc9) (fun f s₃ h₃ => ?_) fun _ _ e => e)
    have fin : (∃ h' tk' m₂ oc news₂ v₀, s₃ = { s with heap := h', toks := tk' } ∧ Fr h₀ env.locals h' m₂ ∧ News h₀ env.locals h' ((c, oc) :: (I, oI) :: news₂) ∧ oc.data = .cell v₀ ∧ (∀ p ∈ news₂, p.1 ≠ I ∧ p.1 ≠ c) ∧ J (i + 1) m₂ news₂) →
        ∃ k, k < n + 1 - i ∧ ∃ h' tk m' news' i oc v₀, s₃ = { s with heap := h', toks := tk } ∧ St i h' ∧ Fr h₀ env.locals h' m' ∧ News h₀ env.locals h' ((c, oc) :: news') ∧ oc.data = .cell v₀ ∧ (∀ p ∈ news', p.1 ≠ I ∧ p.1 ≠ c) ∧ J i m' news' ∧ i ≤ n ∧ k = n + 1 - i := by
      rintro ⟨h₄, tk₄, m₄, oc₄, nw₄, v₄, rfl, F₄, N₄, hd₄, hne₄, hJ₄⟩
      refine ⟨n + 1 - (i + 1), Nat.sub_lt_sub_left (Nat.lt_succ_of_lt hlt) (Nat.lt_succ_self i), h₄, tk₄, m₄, nw₄, i + 1, oc₄, v₄, rfl, ?_, F₄, ?_, hd₄, hne₄, hJ₄, hlt, rfl⟩
      · refine W.frame _ _ _ hst₂ fun b hb o e => ?_
        by_cases q : b = I
        · rw [q, hoI] at e; cases e; rw [q]; exact (N₄ _ (.tail _ (.head _))).1
        · obtain ⟨o', ho'⟩ := hfk b hb q
          have h9 := (N₂ _ (.tail _ (.tail _ (hkl _ _ _ hJ _ ho')))).1
          rw [show h₂.get? b = some o' from h9] at e; cases e
          exact (N₄ _ (.tail _ (.tail _ (hkl _ _ _ hJ₄ _ ho')))).1
      · intro p hp
        rcases List.mem_cons.mp hp with rfl | hp
        · exact N₄ _ (.head _)
        · exact N₄ _ (.tail _ (.tail _ hp))
    cases f with
    | ret v => exact h₃
    | brk => exact h₃
    | next => exact fin h₃
    | cont => exact fin h₃
  · have hin : i = n := by omega
    subst hin
    refine W.done _ _ _ hst' fun h₁ tk₁ hk₁ => wpAny_execs_nil ?_
    obtain ⟨F₁, N₁⟩ := e1 h₁ hk₁
    exact done m' news' h₁ tk₁ oc v₀ hJ F₁ N₁ hoc fun p hp => (hne p hp).2
theorem iter_list_cell {l c : Nat} {vs : Array Value} {n : Nat} {m₀ : Loc} {news : Led} {oc : Obj} {v₀ : Option Value} (J : Loc → Nat → Loc → Led → Prop) (hh : A.handled = none)
    (hk : env.scope.kind = .function) (hx : env.kindOf x = some .cell) (hcl : env.cells.lookup x = some c) (hE : PassesOwn (model prog w) A env E)
    (F : Fr h₀ env.locals s.heap m₀) (N : News h₀ env.locals s.heap ((c, oc) :: news)) (hoc : oc.data = .cell v₀) (hnc : ∀ p ∈ news, p.1 ≠ c) (hl : (l, listOf vs n) ∈ news) (hj : J m₀ 0 m₀ news)
    (hkl : ∀ i m news, J m₀ i m news → (l, listOf vs n) ∈ news)
    (turn : ∀ (I : Nat) i v m₁ news₁ h tk oI oc, vs[i]? = some v → J m₀ i m₁ news₁ → (∀ p ∈ news₁, p.1 ≠ I ∧ p.1 ≠ c) → @Ne Nat c I → Fr h₀ env.locals h m₁ → News h₀ env.locals h ((c, oc) :: (I, oI) :: news₁) → oc.data = .cell (some v) → oI.cls ≠ .type "tuple" →
      wpAny (model prog w) A (execs body env) (TurnPostC h₀ env.locals I c oI (J m₀ (i + 1)) s Q) E { s with heap := h, toks := tk })
    (done : ∀ m₁ news₁ h tk oc v₀, J m₀ vs.size m₁ news₁ → Fr h₀ env.locals h m₁ → News h₀ env.locals h ((c, oc) :: news₁) → oc.data = .cell v₀ → (∀ p ∈ news₁, p.1 ≠ c) → Q .next { s with heap := h, toks := tk }) :
    wpAny (model prog w) A (pyIter (.ref l)) (fun it s₂ => codeAny (model prog w) A (.forLoop (.Name x px) it body [] env) (fun r s' => match r with | .ok f => Q f s' | .error e => cameBackBy (model prog w) A env E e s') s₂) E s := by
  have hls : s.heap.IsList l vs := listOf_isList (N _ (.tail _ hl)).1
  have hlt : l < s.heap.objs.size := Heap.lt_size (N _ (.tail _ hl)).1
  have hct : c < s.heap.objs.size := Heap.lt_size (N _ (.head _)).1
  refine wpAny_pyIter_list hls ?_
  have W := Walks.list (prog := prog) (w := w) hh s.heap.objs.size l (Nat.ne_of_lt hlt) vs
  refine loopc_walks (s := { s with heap := _ }) (J m₀) hk hx hcl hE W (next_is_new F) (Nat.ne_of_gt F.ns.lt) (Nat.ne_of_gt hct) ?_ (fun p hp => ⟨Nat.ne_of_lt (Heap.lt_size (N p (.tail _ hp)).1), hnc p hp⟩)
    ⟨⟨_, Heap.get?_push_size _ rfl, rfl, rfl⟩, hls.push _⟩ (fun i h st => let ⟨⟨o, ho, hc, _⟩, _⟩ := st; ⟨o, ho, by rw [hc]; intro e; exact absurd (Value.type.inj e) (by decide)⟩) (F.push _) (fun p hp => ⟨Heap.get?_push_of_some _ (N p hp).1, (N p hp).2⟩) hoc hj [(l, listOf vs n)] ?_ ?_ ?_ done
  · intro hm
    rcases List.mem_cons.mp hm with e | hm
    · exact absurd hct (e ▸ Nat.lt_irrefl _)
    · exact hnc _ hl (List.mem_singleton.mp hm).symm
  · intro i m nw hJ p hp
    rw [List.mem_singleton.mp hp]; exact hkl i m nw hJ
  · intro b hb hne
    rcases List.mem_cons.mp hb with e | hb
    · exact absurd e hne
    · exact ⟨_, by rw [List.mem_singleton.mp hb]; exact .head _⟩
  · intro i v m₁ news₁ h tk oI oc _ hv hJ hn F' N' hd hc9
    exact turn _ i v m₁ news₁ h tk oI oc hv hJ hn (Nat.ne_of_lt hct) F' N' hd hc9
theorem iter_range_cell {r : Addr} {c : Nat} {a b : Int} {t u v : Tok} {n : Nat} {m₀ : Loc} {news : Led} {oc : Obj} {v₀ : Option Value} (J : Loc → Nat → Loc → Led → Prop) (hh : A.handled = none)
    (hk : env.scope.kind = .function) (hx : env.kindOf x = some .cell) (hcl : env.cells.lookup x = some c) (hE : PassesOwn (model prog w) A env E)
    (hr : IsRange s.heap r a b 1 t u v) (hsmall : Builtin.Range.small a b 1 = true) (hn : Builtin.Range.rangeSize a b 1 = (n : Int))
    (F : Fr h₀ env.locals s.heap m₀) (N : News h₀ env.locals s.heap ((c, oc) :: news)) (hoc : oc.data = .cell v₀) (hnc : ∀ p ∈ news, p.1 ≠ c) (hj : J m₀ 0 m₀ news)
    (turn : ∀ (I : Nat) i t m₁ news₁ h tk oI oc, i < n → J m₀ i m₁ news₁ → (∀ p ∈ news₁, p.1 ≠ I ∧ p.1 ≠ c) → @Ne Nat c I → Fr h₀ env.locals h m₁ → News h₀ env.locals h ((c, oc) :: (I, oI) :: news₁) → oc.data = .cell (some (.int (a + (i : Int)) t)) → oI.cls ≠ .type "tuple" →
      wpAny (model prog w) A (execs body env) (TurnPostC h₀ env.locals I c oI (J m₀ (i + 1)) s Q) E { s with heap := h, toks := tk })
    (done : ∀ m₁ news₁ h tk oc v₀, J m₀ n m₁ news₁ → Fr h₀ env.locals h m₁ → News h₀ env.locals h ((c, oc) :: news₁) → oc.data = .cell v₀ → (∀ p ∈ news₁, p.1 ≠ c) → Q .next { s with heap := h, toks := tk }) :
    wpAny (model prog w) A (pyIter (.ref r)) (fun it s₂ => codeAny (model prog w) A (.forLoop (.Name x px) it body [] env) (fun r s' => match r with | .ok f => Q f s' | .error e => cameBackBy (model prog w) A env E e s') s₂) E s := by
  have hct : c < s.heap.objs.size := Heap.lt_size (N _ (.head _)).1
  refine wpAny_pyIter_range hr hsmall ?_
  have W := Walks.range (prog := prog) (w := w) hh s.heap.objs.size a 1 n
  refine loopc_walks (s := { s with heap := _ }) (J m₀) hk hx hcl hE W (next_is_new F) (Nat.ne_of_gt F.ns.lt) (Nat.ne_of_gt hct) ?_ (fun p hp => ⟨Nat.ne_of_lt (Heap.lt_size (N p (.tail _ hp)).1), hnc p hp⟩)
    ?_ (fun i h st => ⟨_, st, by intro e; exact absurd (Value.type.inj e) (by decide)⟩) (F.push _) (fun p hp => ⟨Heap.get?_push_of_some _ (N p hp).1, (N p hp).2⟩) hoc hj [] (fun _ _ _ _ p hp => nomatch hp) ?_ ?_ done
  · intro hm
    exact absurd hct (List.mem_singleton.mp hm ▸ Nat.lt_irrefl _)
  · have := Heap.get?_push_size (h := s.heap) (o := { cls := .type "range_iterator", data := .fields #[rawInt a, rawInt (Builtin.Range.rangeSize a b 1), rawInt 1] }) rfl
    rw [hn] at this ⊢
    simpa [IsRangeIter] using this
  · intro b hb hne
    exact absurd (List.mem_singleton.mp hb) hne
  · rintro i v m₁ news₁ h tk oI oc hi ⟨t, rfl⟩ hJ hn F' N' hd hc9
    exact turn _ i t m₁ news₁ h tk oI oc hi hJ hn (Nat.ne_of_lt hct) F' N' (by rw [hd]; simp) hc9
theorem iter_range {r : Addr} {a b : Int} {t u v : Tok} {n : Nat} {m₀ : Loc} {news : Led} (J : Loc → Nat → Loc → Led → Prop) (hh : A.handled = none)
    (hr : IsRange s.heap r a b 1 t u v) (hsmall : Builtin.Range.small a b 1 = true) (hn : Builtin.Range.rangeSize a b 1 = (n : Int))
    (F : Fr h₀ env.locals s.heap m₀) (N : News h₀ env.locals s.heap news) (hj : J m₀ 0 m₀ news)
    (turn : ∀ (I : Nat) i t m₁ news₁ h tk oI, i < n → J m₀ i m₁ news₁ → (∀ p ∈ news₁, p.1 ≠ I) → Fr h₀ env.locals h (fun y => if y = x then some (.int (a + (i : Int)) t) else m₁ y) → News h₀ env.locals h ((I, oI) :: news₁) →
      wpAny (model prog w) A (execs body env) (TurnPost h₀ env.locals I oI (J m₀ (i + 1)) s Q) E { s with heap := h, toks := tk })
    (done : ∀ m₁ news₁ h tk, J m₀ n m₁ news₁ → Fr h₀ env.locals h m₁ → News h₀ env.locals h news₁ → Q .next { s with heap := h, toks := tk }) :
    wpAny (model prog w) A (pyIter (.ref r)) (fun it s₂ => LoopAtV prog w A h₀ env x body Q E it s₂) E s := by
  refine wpAny_pyIter_range hr hsmall ?_
  have W := Walks.range (prog := prog) (w := w) hh s.heap.objs.size a 1 n
  refine loop_walks (s := { s with heap := _ }) (J m₀) W ?_ (next_is_new F) (fun p hp => Nat.ne_of_lt (Heap.lt_size (N p hp).1))
    ?_ (fun i h st => ⟨_, st⟩) (F.push _) (fun p hp => ⟨Heap.get?_push_of_some _ (N p hp).1, (N p hp).2⟩) hj [] (fun _ _ _ _ p hp => nomatch hp) ?_ ?_ done
  · intro hm
    exact absurd F.ns.lt (List.mem_singleton.mp hm ▸ Nat.lt_irrefl _)
  · have := Heap.get?_push_size (h := s.heap) (o := { cls := .type "range_iterator", data := .fields #[rawInt a, rawInt (Builtin.Range.rangeSize a b 1), rawInt 1] }) rfl
    rw [hn] at this ⊢
    simpa [IsRangeIter] using this
  · intro b hb hne
    exact absurd (List.mem_singleton.mp hb) hne
  · rintro i v m₁ news₁ h tk oI hi ⟨t, rfl⟩ hJ hn F' N'
    exact turn _ i t m₁ news₁ h tk oI hi hJ hn (by simpa using F') N'
end
inductive RE | num (k : Int) | var | op (o : Op) | minus
  deriving DecidableEq
inductive ReIn (R : Led) : Value → RE → Prop
  | num {k : Int} {t : Tok} : ReIn R (.int k t) (.num k)
  | var {a : Nat} {t : Tok} : (a, tupOf [.str (Str.ofString "x") t]) ∈ R → ReIn R (.ref a) .var
  | op {o : Op} {t : Tok} : ReIn R (.str o.str t) (.op o)
  | minus {t : Tok} : ReIn R (.str (Op.str .minus) t) .minus
theorem ReIn.use {R : Led} {v : Value} {e : RE} {C : Value → RE → Prop} (h : ReIn R v e) (k1 : ∀ k t, C (.int k t) (.num k)) (k2 : ∀ (a : Nat) t, (a, tupOf [.str (Str.ofString "x") t]) ∈ R → C (.ref a) .var) (k3 : ∀ o t, C (.str (Op.str o) t) (.op o)) (k4 : ∀ t, C (.str (Op.str .minus) t) .minus) : C v e := by
  cases h with
  | num => exact k1 _ _
  | var h => exact k2 _ _ h
  | op => exact k3 _ _
  | minus => exact k4 _
theorem ReIn.monoT {R R' : Led} (hs : ∀ p ∈ R, TupO p.2 → p ∈ R') {v : Value} {e : RE} (h : ReIn R v e) : ReIn R' v e := by
  cases h with
  | num => exact .num
  | var h => exact .var (hs _ h ⟨rfl, _, _, rfl⟩)
  | op => exact .op
  | minus => exact .minus
theorem ReIn.mono {R R' : Led} (hs : ∀ p ∈ R, p ∈ R') {v : Value} {e : RE} (h : ReIn R v e) : ReIn R' v e := h.monoT fun p hp _ => hs p hp
noncomputable def RE.isOperand : RE → Bool
  | .num _ => true
  | .var => true
  | _ => false
/-- A row as the law builds it: `due` says whether an operand is due. -/
inductive WF : Bool → List RE → Prop
  | nil : WF false []
  | num {k r} : WF false r → WF true (.num k :: r)
  | var {r} : WF false r → WF true (.var :: r)
  | mnum {k r} : WF false r → WF true (.minus :: .num k :: r)
  | mvar {r} : WF false r → WF true (.minus :: .var :: r)
  | op {o r} : o ≠ .minus → WF true r → WF false (.op o :: r)
noncomputable def leafOf : RE → List Tr
  | .num k => [.num k]
  | .var => [.var]
  | _ => []
noncomputable def isNeg : Tr → Bool
  | .neg _ => true
  | _ => false
noncomputable def rootAt (lv : Lv) (T : List RE → List Tr) (row : List RE) (at' : Nat) : List Tr :=
  match row[at']? with
  | some (.op o) =>
    let lefts := (T (row.take at')).filter fun t => beside lv o t false
    let rights := if lefts = [] then [] else T (row.drop (at' + 1))
    (rights.filter fun t => beside lv o t true && signedOk lv o t).flatMap fun r => lefts.map fun l => .bin o l r
  | _ => []
noncomputable def negs (lv : Lv) (ts : List Tr) : List Tr := (ts.filter fun t => !isNeg t && beside lv .minus t true).map .neg
noncomputable def trees (lv : Lv) : Nat → List RE → List Tr
  | 0, _ => []
  | n + 1, row => match row with
    | [x] => leafOf x
    | _ => (if row.head? = some .minus then negs lv (trees lv n row.tail) else []) ++ (List.range (row.length - 1)).flatMap fun i => rootAt lv (trees lv n) row (i + 1)
theorem tr1 {lv : Lv} {row : List RE} : trees lv 0 row = [] := rfl
theorem tr3 {lv : Lv} {n : Nat} {a b : RE} {r : List RE} : trees lv (n + 1) (a :: b :: r) = (if (a :: b :: r).head? = some .minus then negs lv (trees lv n (a :: b :: r).tail) else []) ++ (List.range ((a :: b :: r).length - 1)).flatMap fun i => rootAt lv (trees lv n) (a :: b :: r) (i + 1) := rfl
theorem tr2 {lv : Lv} {n : Nat} {x : RE} : trees lv (n + 1) [x] = leafOf x := rfl
section
variable {w : World} {A : Around} {E : Value → Shared → Prop} {s : Shared} {h₀ : Heap} {L : Addr} {news : Led} {Q : Value → Shared → Prop}
theorem eq_tup_str {a : Nat} {vs : List Value} {x : Str} {t : Tok} (N : News h₀ L s.heap news) (hm : (a, tupOf vs) ∈ news) (hu : A.units < cLine) (h : Q (.bool false) s) :
    wpAny (model PySem.Challenge.rw_og0006_01.row.prog w) A (compareOp .Eq (.ref a) (.str x t)) Q E s :=
  PySem.SeqAt.RcAt.tuple_str x t ⟨_, (N _ hm).1, rfl, 0, rfl⟩ hu _ _ E Q h
theorem ne_nil {l b : Nat} {vs : Array Value} {n n2 : Nat} (N : News h₀ L s.heap news) (hm : (l, listOf vs n) ∈ news) (hb : (b, listOf [].toArray n2) ∈ news) (hu : A.units < cLine) (h : Q (.bool (decide (vs.size ≠ 0))) s) :
    wpAny (model PySem.Challenge.rw_og0006_01.row.prog w) A (compareOp .NotEq (.ref l) (.ref b)) Q E s := by
  by_cases e : vs.size = 0
  · have hv : vs = #[] := Array.eq_empty_of_size_eq_zero e
    subst hv
    exact PySem.SeqAt.RcNeAt.lists (e := fun _ => false) (listOf_isList (N _ hm).1) (listOf_isList (N _ hb).1) rfl hu (fun j h1 _ => absurd h1 (Nat.not_lt_zero _)) _ _ E Q (by simpa using h)
  · exact PySem.SeqAt.RcNeAt.lists_lengths (listOf_isList (N _ hm).1) (listOf_isList (N _ hb).1) (by simpa using e) hu _ _ E Q (by simpa [e] using h)
end
local macro_rules | `(tactic| walk_at "compareOp Eq ref str") => sq [dk (ru "eq_tup_str" "amu_")]
local macro_rules | `(tactic| walk_at "compareOp NotEq ref ref") => sq [dk (ru "ne_nil" "ammu_")]
noncomputable def MarkStop : Prop := True
inductive Wt | bin (o : Op) | neg
noncomputable def Wt.fx (lv : Lv) : Wt → Fx
  | .bin o => lv o
  | .neg => ⟨.left, 6⟩
noncomputable def clash (a b : Fx) : Bool := decide (a.level = b.level) && (!decide (a.way = b.way) || decide (a.way = .none))
noncomputable def first' (a b : Fx) : Bool := decide (a.level > b.level) || (decide (a.level = b.level) && decide (a.way = .left))
noncomputable def red (a b : Fx) : Bool := !clash a b && first' a b
noncomputable def shf (a b : Fx) : Bool := !clash a b && !first' a b
structure Alg (α : Type) where
  leaf : RE → α
  mkc : Op → α → α → Option α
  ng : α → Option α
section
variable {α : Type} (G : Alg α) (lv : Lv)
noncomputable def reduce1 : Wt → List α → Option (List α)
  | .bin o, r :: l :: ps => (G.mkc o l r).map (· :: ps)
  | .neg, r :: ps => (G.ng r).map (· :: ps)
  | _, _ => none
noncomputable def settle (f : Fx) : List Wt → List α → Option (List Wt × List α)
  | [], ps => some ([], ps)
  | w :: ws, ps => if clash (w.fx lv) f then none else if first' (w.fx lv) f then (reduce1 G w ps).bind (settle f ws) else some (w :: ws, ps)
noncomputable def whole : List Wt → List α → Option (List α)
  | [], ps => some ps
  | w :: ws, ps => (reduce1 G w ps).bind (whole ws)
noncomputable def takeAll : List RE → Bool → List Wt → List α → Option (List Wt × List α)
  | [], due, ws, ps => if due then none else some (ws, ps)
  | .num k :: r, true, ws, ps => takeAll r false ws (G.leaf (.num k) :: ps)
  | .var :: r, true, ws, ps => takeAll r false ws (G.leaf .var :: ps)
  | .minus :: r, true, ws, ps => if (ws.head?.any fun w => decide (6 ≤ (w.fx lv).level)) then none else takeAll r true (.neg :: ws) ps
  | .op o :: r, false, ws, ps => (settle G lv (lv o) ws ps).bind fun x => takeAll r true (.bin o :: x.1) x.2
  | _ :: _, _, _, _ => none
/-- What the program makes of a row: the last operand. -/
noncomputable def parse (row : List RE) : Option α := (takeAll G lv row true [] []).bind fun x => (whole G x.1 x.2).bind List.head?
noncomputable def val : Tr → Option α
  | .num k => some (G.leaf (.num k))
  | .var => some (G.leaf .var)
  | .neg t => (val t).bind G.ng
  | .bin o l r => (val l).bind fun a => (val r).bind fun b => G.mkc o a b
noncomputable def pend : Tr → Option (List Wt × List α)
  | .num k => some ([], [G.leaf (.num k)])
  | .var => some ([], [G.leaf .var])
  | .neg t => (pend t).map fun x => (x.1 ++ [.neg], x.2)
  | .bin o l r => (val G l).bind fun a => (pend r).map fun x => (x.1 ++ [.bin o], x.2 ++ [a])
end
theorem re1 {α : Type} {G : Alg α} {o : Op} {r l : α} {ps : List α} : reduce1 G (.bin o) (r :: l :: ps) = (G.mkc o l r).map (· :: ps) := rfl
theorem re2 {α : Type} {G : Alg α} {r : α} {ps : List α} : reduce1 G .neg (r :: ps) = (G.ng r).map (· :: ps) := rfl
theorem re3 {α : Type} {G : Alg α} {o : Op} : reduce1 G (.bin o) [] = none := rfl
theorem re4 {α : Type} {G : Alg α} {o : Op} {r : α} : reduce1 G (.bin o) [r] = none := rfl
theorem re5 {α : Type} {G : Alg α} : reduce1 G .neg [] = none := rfl
theorem se1 {α : Type} {G : Alg α} {lv : Lv} {f : Fx} {ps : List α} : settle G lv f [] ps = some ([], ps) := rfl
theorem se2 {α : Type} {G : Alg α} {lv : Lv} {f : Fx} {w : Wt} {ws : List Wt} {ps : List α} : settle G lv f (w :: ws) ps = if clash (w.fx lv) f then none else if first' (w.fx lv) f then (reduce1 G w ps).bind (settle G lv f ws) else some (w :: ws, ps) := rfl
theorem wh1 {α : Type} {G : Alg α} {ps : List α} : whole G [] ps = some ps := rfl
theorem wh2 {α : Type} {G : Alg α} {w : Wt} {ws : List Wt} {ps : List α} : whole G (w :: ws) ps = (reduce1 G w ps).bind (whole G ws) := rfl
theorem tA1 {α : Type} {G : Alg α} {lv : Lv} {due : Bool} {ws : List Wt} {ps : List α} : takeAll G lv [] due ws ps = if due then none else some (ws, ps) := rfl
theorem tA2 {α : Type} {G : Alg α} {lv : Lv} {k : Int} {r : List RE} {ws : List Wt} {ps : List α} : takeAll G lv (.num k :: r) true ws ps = takeAll G lv r false ws (G.leaf (.num k) :: ps) := rfl
theorem tA3 {α : Type} {G : Alg α} {lv : Lv} {r : List RE} {ws : List Wt} {ps : List α} : takeAll G lv (.var :: r) true ws ps = takeAll G lv r false ws (G.leaf .var :: ps) := rfl
theorem tA4 {α : Type} {G : Alg α} {lv : Lv} {r : List RE} {ws : List Wt} {ps : List α} : takeAll G lv (.minus :: r) true ws ps = if (ws.head?.any fun w => decide (6 ≤ (w.fx lv).level)) then none else takeAll G lv r true (.neg :: ws) ps := rfl
theorem tA5 {α : Type} {G : Alg α} {lv : Lv} {o : Op} {r : List RE} {ws : List Wt} {ps : List α} : takeAll G lv (.op o :: r) false ws ps = (settle G lv (lv o) ws ps).bind fun x => takeAll G lv r true (.bin o :: x.1) x.2 := rfl
theorem va1 {α : Type} {G : Alg α} {k : Int} : val G (.num k) = some (G.leaf (.num k)) := rfl
theorem va2 {α : Type} {G : Alg α} : val G .var = some (G.leaf .var) := rfl
theorem va3 {α : Type} {G : Alg α} {t : Tr} : val G (.neg t) = (val G t).bind G.ng := rfl
theorem va4 {α : Type} {G : Alg α} {o : Op} {l r : Tr} : val G (.bin o l r) = (val G l).bind fun a => (val G r).bind fun b => G.mkc o a b := rfl
theorem pe1 {α : Type} {G : Alg α} {k : Int} : pend G (.num k) = some ([], [G.leaf (.num k)]) := rfl
theorem pe2 {α : Type} {G : Alg α} : pend G .var = some ([], [G.leaf .var]) := rfl
theorem pe3 {α : Type} {G : Alg α} {t : Tr} : pend G (.neg t) = (pend G t).map fun x => (x.1 ++ [.neg], x.2) := rfl
theorem pe4 {α : Type} {G : Alg α} {o : Op} {l r : Tr} : pend G (.bin o l r) = (val G l).bind fun a => (pend G r).map fun x => (x.1 ++ [.bin o], x.2 ++ [a]) := rfl
noncomputable def tokens : Tr → List RE
  | .num k => [.num k]
  | .var => [.var]
  | .neg t => .minus :: tokens t
  | .bin o l r => tokens l ++ .op o :: tokens r
theorem to1 {k : Int} : tokens (.num k) = [.num k] := rfl
theorem to2 : tokens .var = [.var] := rfl
theorem to3 {t : Tr} : tokens (.neg t) = .minus :: tokens t := rfl
theorem to4 {o : Op} {l r : Tr} : tokens (.bin o l r) = tokens l ++ .op o :: tokens r := rfl
noncomputable def Valid (lv : Lv) : Tr → Prop
  | .num _ => True
  | .var => True
  | .neg t => Valid lv t ∧ isNeg t = false ∧ beside lv .minus t true = true
  | .bin o l r => o ≠ .minus ∧ Valid lv l ∧ Valid lv r ∧ beside lv o l false = true ∧ beside lv o r true = true ∧ signedOk lv o r = true
theorem one_left (lv : Lv) (o x : Op) : besideOne lv o false x = red (lv x) (lv o) := by
  unfold besideOne red clash first' sideWay
  rcases Int.lt_trichotomy (lv x).level (lv o).level with h | h | h
  · simp [h, Int.ne_of_lt h, Int.not_lt.mpr (Int.le_of_lt h)]
  · cases (lv x).way <;> cases (lv o).way <;> simp [h]
  · simp [h, Int.ne_of_gt h, Int.not_lt.mpr (Int.le_of_lt h)]
theorem one_right (lv : Lv) (o x : Op) : besideOne lv o true x = shf (lv o) (lv x) := by
  unfold besideOne shf clash first' sideWay
  rcases Int.lt_trichotomy (lv x).level (lv o).level with h | h | h
  · simp [h, Int.ne_of_gt h]
  · cases (lv x).way <;> cases (lv o).way <;> simp [h]
  · simp [h, Int.ne_of_gt h, Int.ne_of_lt h, Int.not_lt.mpr (Int.le_of_lt h)]
theorem beside_left {lv : Lv} {o : Op} {t : Tr} (h : beside lv o t false = true) : ∀ x ∈ edges true t, red (lv x) (lv o) = true := by
  intro x hx; rw [← one_left]; exact List.all_eq_true.mp h x hx
theorem beside_right {lv : Lv} {o : Op} {t : Tr} (h : beside lv o t true = true) : ∀ x ∈ edges false t, shf (lv o) (lv x) = true := by
  intro x hx; rw [← one_right]; exact List.all_eq_true.mp h x hx
theorem head_not_neg {lv : Lv} (hm : lv .minus = ⟨.left, 6⟩) : ∀ {t : Tr}, Valid lv t → isNeg t = false → (∀ x ∈ edges false t, shf (lv .minus) (lv x) = true) → headNeg t = false
  | .num _, _, _, _ => rfl
  | .var, _, _, _ => rfl
  | .neg _, _, h, _ => by simp [isNeg] at h
  | .bin o l r, hv, _, he => by
    have ho := he o (by simp [edges])
    show headNeg l = false
    cases hl : isNeg l with
    | false => exact head_not_neg hm hv.2.1 hl fun x hx => he x (by simp [edges, hx])
    | true =>
      cases l with
      | neg t =>
        have := beside_left hv.2.2.2.1 .minus (by simp [edges])
        exfalso
        revert ho this
        unfold shf red clash first'
        rw [hm]
        generalize lv o = f
        obtain ⟨wy, k⟩ := f
        cases wy <;> simp <;> omega
      | num _ => simp [isNeg] at hl
      | var => simp [isNeg] at hl
      | bin _ _ _ => simp [isNeg] at hl
section
variable {α : Type} {G : Alg α} {lv : Lv}
theorem pend_none {t : Tr} (h : pend G t = none) : val G t = none := by
  induction t with
  | num _ => cases h
  | var => cases h
  | neg t ih =>
    simp only [pe1, pe2, pe3, pe4, Option.map_eq_none_iff] at h
    simp [va1, va2, va3, va4, ih h]
  | bin o l r _ ih =>
    simp only [pe1, pe2, pe3, pe4] at h
    cases hl : val G l with
    | none => simp [va1, va2, va3, va4, hl]
    | some a =>
      rw [hl] at h
      simp only [Option.bind_some, Option.map_eq_none_iff] at h
      simp [va1, va2, va3, va4, hl, ih h]
theorem settle_pend (hm : lv .minus = ⟨.left, 6⟩) (f : Fx) : ∀ {t : Tr} {pw : List Wt} {pv : List α} {ws : List Wt} {ops : List α}, pend G t = some (pw, pv) → (∀ x ∈ edges true t, red (lv x) f = true) →
    settle G lv f (pw ++ ws) (pv ++ ops) = (val G t).bind fun a => settle G lv f ws (a :: ops)
  | .num k, pw, pv, ws, ops, h, _ => by cases h; rfl
  | .var, pw, pv, ws, ops, h, _ => by cases h; rfl
  | .neg t, pw, pv, ws, ops, h, he => by
    simp only [pe1, pe2, pe3, pe4, Option.map_eq_some_iff] at h
    obtain ⟨⟨pw', pv'⟩, h, e⟩ := h
    cases e
    have r1 : red (⟨.left, 6⟩ : Fx) f = true := hm ▸ he .minus (by simp [edges])
    unfold red at r1
    simp only [Bool.and_eq_true, Bool.not_eq_true'] at r1
    rw [List.append_assoc, settle_pend hm f h (fun x hx => he x (by simp [edges, hx]))]
    simp only [va1, va2, va3, va4]
    cases val G t with
    | none => rfl
    | some a =>
      simp only [Option.bind_some, List.cons_append, List.nil_append, se1, se2, Wt.fx, r1.1, r1.2, re1, re2, re3, re4, re5]
      cases G.ng a <;> simp
  | .bin o l r, pw, pv, ws, ops, h, he => by
    simp only [pe1, pe2, pe3, pe4] at h
    cases hl : val G l with
    | none => rw [hl] at h; cases h
    | some a =>
      rw [hl] at h
      simp only [Option.bind_some, Option.map_eq_some_iff] at h
      obtain ⟨⟨pw', pv'⟩, h, e⟩ := h
      cases e
      have r1 : red (lv o) f = true := he o (by simp [edges])
      unfold red at r1
      simp only [Bool.and_eq_true, Bool.not_eq_true'] at r1
      rw [List.append_assoc, List.append_assoc, settle_pend hm f h (fun x hx => he x (by simp [edges, hx]))]
      simp only [va1, va2, va3, va4, hl, Option.bind_some]
      cases val G r with
      | none => rfl
      | some b =>
        simp only [Option.bind_some, List.cons_append, List.nil_append, se1, se2, Wt.fx, r1.1, r1.2, re1, re2, re3, re4, re5]
        cases G.mkc o a b <;> simp
theorem whole_pend : ∀ {t : Tr} {pw : List Wt} {pv : List α} {ws : List Wt} {ops : List α}, pend G t = some (pw, pv) →
    whole G (pw ++ ws) (pv ++ ops) = (val G t).bind fun a => whole G ws (a :: ops)
  | .num k, pw, pv, ws, ops, h => by cases h; rfl
  | .var, pw, pv, ws, ops, h => by cases h; rfl
  | .neg t, pw, pv, ws, ops, h => by
    simp only [pe1, pe2, pe3, pe4, Option.map_eq_some_iff] at h
    obtain ⟨⟨pw', pv'⟩, h, e⟩ := h
    cases e
    rw [List.append_assoc, whole_pend h]
    simp only [va1, va2, va3, va4]
    cases val G t with
    | none => rfl
    | some a =>
      simp only [Option.bind_some, List.cons_append, List.nil_append, wh1, wh2, re1, re2, re3, re4, re5]
      cases G.ng a <;> simp
  | .bin o l r, pw, pv, ws, ops, h => by
    simp only [pe1, pe2, pe3, pe4] at h
    cases hl : val G l with
    | none => rw [hl] at h; cases h
    | some a =>
      rw [hl] at h
      simp only [Option.bind_some, Option.map_eq_some_iff] at h
      obtain ⟨⟨pw', pv'⟩, h, e⟩ := h
      cases e
      rw [List.append_assoc, List.append_assoc, whole_pend h]
      simp only [va1, va2, va3, va4, hl, Option.bind_some]
      cases val G r with
      | none => rfl
      | some b =>
        simp only [Option.bind_some, List.cons_append, List.nil_append, wh1, wh2, re1, re2, re3, re4, re5]
        cases G.mkc o a b <;> simp
noncomputable def Ctx (lv : Lv) (ws : List Wt) (t : Tr) : Prop := ∀ w, ws.head? = some w → (∀ x ∈ edges false t, shf (w.fx lv) (lv x) = true) ∧ (headNeg t = true → (w.fx lv).level < 6)
theorem run_valid (hm : lv .minus = ⟨.left, 6⟩) : ∀ {t : Tr} {rest : List RE} {ws : List Wt} {ops : List α}, Valid lv t → Ctx lv ws t →
    takeAll G lv (tokens t ++ rest) true ws ops = (pend G t).bind fun x => takeAll G lv rest false (x.1 ++ ws) (x.2 ++ ops)
  | .num k, rest, ws, ops, _, _ => by simp [to1, to2, to3, to4, tA1, tA2, tA3, tA4, tA5, pe1, pe2, pe3, pe4]
  | .var, rest, ws, ops, _, _ => by simp [to1, to2, to3, to4, tA1, tA2, tA3, tA4, tA5, pe1, pe2, pe3, pe4]
  | .neg t, rest, ws, ops, hv, hc => by
    have hc6 : (ws.head?.any fun w => decide (6 ≤ (w.fx lv).level)) = false := by
      cases hw : ws.head? with
      | none => rfl
      | some w => have := (hc w hw).2 rfl; simp; omega
    have hsh := beside_right hv.2.2
    simp only [to1, to2, to3, to4, List.cons_append, tA1, tA2, tA3, tA4, tA5, hc6]
    rw [run_valid hm hv.1 (ws := .neg :: ws) (by
      intro w hw
      cases hw
      refine ⟨fun x hx => by have := hsh x hx; rw [hm] at this; exact this, fun hh => ?_⟩
      rw [head_not_neg hm hv.1 hv.2.1 hsh] at hh; cases hh)]
    cases hp : pend G t with
    | none => simp [pe1, pe2, pe3, pe4, hp]
    | some x => simp [pe1, pe2, pe3, pe4, hp]
  | .bin o l r, rest, ws, ops, hv, hc => by
    obtain ⟨ho, hvl, hvr, hbl, hbr, hs⟩ := hv
    simp only [to1, to2, to3, to4, List.append_assoc, List.cons_append]
    rw [run_valid hm hvl (by
      intro w hw
      have := hc w hw
      exact ⟨fun x hx => this.1 x (by simp [edges, hx]), this.2⟩)]
    cases hp : pend G l with
    | none => simp [pe1, pe2, pe3, pe4, pend_none hp]
    | some x =>
      obtain ⟨pw, pv⟩ := x
      simp only [Option.bind_some, tA1, tA2, tA3, tA4, tA5]
      rw [settle_pend hm (lv o) hp (beside_left hbl)]
      cases hl : val G l with
      | none => simp [pe1, pe2, pe3, pe4, hl]
      | some a =>
        have hset : settle G lv (lv o) ws (a :: ops) = some (ws, a :: ops) := by
          cases ws with
          | nil => rfl
          | cons w ws' =>
            have := (hc w rfl).1 o (by simp [edges])
            unfold shf at this
            simp only [Bool.and_eq_true, Bool.not_eq_true'] at this
            simp [se1, se2, this.1, this.2]
        simp only [Option.bind_some, hset]
        rw [run_valid hm hvr (ws := .bin o :: ws) (by
          intro w hw
          cases hw
          refine ⟨fun x hx => beside_right hbr x hx, fun hh => ?_⟩
          simp only [signedOk, hh, Bool.not_true, Bool.false_or, decide_eq_true_eq] at hs
          exact hs)]
        cases hr : pend G r with
        | none => simp [pe1, pe2, pe3, pe4, hl, hr]
        | some y => simp [pe1, pe2, pe3, pe4, hl, hr]
theorem parse_valid (hm : lv .minus = ⟨.left, 6⟩) {t : Tr} (hv : Valid lv t) : parse G lv (tokens t) = val G t := by
  unfold parse
  have h1 := run_valid (G := G) hm (t := t) (rest := []) (ws := []) (ops := []) hv (by intro w hw; cases hw)
  rw [List.append_nil] at h1
  rw [h1]
  cases hp : pend G t with
  | none => simp [pend_none hp]
  | some x =>
    obtain ⟨pw, pv⟩ := x
    have h2 := whole_pend (ws := []) (ops := []) hp
    simp only [Option.bind_some, tA1, tA2, tA3, tA4, tA5]
    simp only [List.append_nil] at h2 ⊢
    simp only [Bool.false_eq_true, if_false, Option.bind_some]
    rw [h2]
    cases val G t <;> simp [wh1, wh2]
end
inductive TreesPost (R : Led) (ts : List Tr) (r : Value) (led' : Led) : Prop
  | mk (l : Nat) (vs : Array Value) (n : Nat) : (r = .ref l) → (Grows R led') → ((l, listOf vs n) ∈ led') → ((∀ q ∈ R, @LT.lt Nat _ q.1 l)) → (All2 (TrIn led') vs.toList ts) → TreesPost R ts r led' 
theorem i64 {i : Nat} : (0 : Int) ≤ (1 : Int) + (i : Int) := by omega
theorem i63 {i n : Nat} (h : i < n - 1) (h1 : n ≤ 1000) : (1 : Int) + (i : Int) < 2 ^ 63 := by omega
theorem TreesPost.use {R : Led} {ts : List Tr} {r : Value} {led' : Led} {C : Value → Prop} (h : TreesPost R ts r led') (k : ∀ (l : Nat) (vs : Array Value) (n : Nat), Grows R led' → (l, listOf vs n) ∈ led' → (∀ q ∈ R, @LT.lt Nat _ q.1 l) → All2 (TrIn led') vs.toList ts → C (.ref l)) : C r := by
  obtain ⟨l, vs, n, rfl, a, b, c, d⟩ := h
  exact k l vs n a b c d
noncomputable def TreesIH (w : World) (lv : Lv) (n : Nat) : Prop := ∀ (row : List RE) (R : Led) (d : Nat) (od : Obj) (kvs : List (Str × Value)) (rl : Nat) (vs : Array Value) (k : Nat), row.length ≤ n → WF true row → (d, od) ∈ R → od.IsDictOf (PySem.strKind PySem.Challenge.rw_og0006_01.row.prog w) kvs → LvIn R kvs lv → (rl, listOf vs k) ∈ R → All2 (ReIn R) vs.toList row →
  Calls w 438 [.ref d, .ref rl] (n + 2) R (TreesPost R (trees lv n row))
local macro_rules | `(tactic| walk_at "exec If Compare cons nil") => sq [atT "exec ( Stmt.If ( Expr.Compare ( Expr.Subscript _ _ _ ) _ _ _ ) _ _ _ ) _", stop1 "MarkStop"]
local macro_rules | `(tactic| walk_at "eval Name") => sq [atT "eval ( Expr.Name _ _ ) ( envOfC _ _ _ _ _ )", ruI "nameX_C" "aRmH_rrd" [5, 6, 7] dk]
theorem isi_tup_str {w : World} {A : Around} {E : Value → Shared → Prop} {s : Shared} {h₀ : Heap} {L : Addr} {news : Led} {a : Nat} {vs : List Value} {Q : Value → Shared → Prop} (N : News h₀ L s.heap news) (hm : (a, tupOf vs) ∈ news) (h : Q (.bool false) { s with toks := s.toks + 1 }) :
    wpAny (model PySem.Challenge.rw_og0006_01.row.prog w) A (call (.builtin "isinstance") [.ref a, .type "str"]) Q E s :=
  PySem.IsiPair.tuple_str (N _ hm).1 rfl h
theorem comp_name {M : Model} {A : Around} {E : Value → Shared → Prop} {s : Shared} {h₀ : Heap} {L : Addr} {led : Led} {C : Nat} {oC : Obj} {mC : Loc} {scope : Scope} {cl : List (Str × Addr)} {env : Env} {x : Str} {pos : Pos} {v : Value} {Q : Value → Shared → Prop}
    (hNs : ∀ h' : Heap, h'.get? C = some oC → h'.Ns C mC) (hv : mC x = some v) (N : News h₀ L s.heap led) (hm : (C, oC) ∈ led) (h : Q v s)
    (hk : (compEnvC scope cl C env).scope.kind = .function) (hx : (compEnvC scope cl C env).kindOf x = some .local) (hd : (x == ("__debug__" : Str)) = false := by decide) :
    wpAny M A (eval (.Name x pos) (compEnvC scope cl C env)) Q E s := wpAny_Name (wpAny_loadName_local hk hx (hNs _ (N _ hm).1) hv h) hd
local macro_rules | `(tactic| walk_at "eval Name") => sq [atT "eval ( Expr.Name _ _ ) ( compEnvC _ _ _ _ )", ruI "lcf_cell" "aRmH_rr" [5, 6] dk]
local macro_rules | `(tactic| walk_at "eval Name") => sq [atT "eval ( Expr.Name _ _ ) ( compEnvC _ _ _ _ )", ruI "comp_name" "hham_rr" [5, 6] dk]
local macro_rules | `(tactic| walk_at "call builtin:isinstance") => sq [atIs "\"str\"", dk (ru "isi_tup_str" "am_")]
local macro_rules | `(tactic| walk_at "exec For Name Call cons nil") => sq [stop]
local macro_rules | `(tactic| walk_at "exec For Name Name cons nil") => sq [stop]
local macro_rules | `(tactic| walk_at "exec Assign cons IfExp") => sq [stop1 "MarkStop"]
local macro_rules | `(tactic| walk_at "newList") => sq newLst
local macro_rules | `(tactic| walk_at "newList nil") => sq newLst
local macro_rules | `(tactic| walk_at "eval ListComp") => sq [stop]
local macro_rules | `(tactic| walk_at "exec Assign cons ListComp") => sq [stop]
section
variable {w : World} {A : Around} {E : Value → Shared → Prop} {s : Shared} {h₀ : Heap} {L : Addr} {news : Led} {m : Loc} {l n : Nat} {its : Array Value} {t : Tok} {value slice : PySem.Expr} {Q : Value → Shared → Prop}
theorem pick_from (its : List Value) (k : Nat) : kms_pick its (some (k : Int)) none = its.drop k := by
  unfold kms_pick kms_lo kms_hi
  simp only [show ¬ ((k : Int) < 0) by omega, if_false, Int.toNat_natCast]
  rw [kmk_drop_min, List.take_of_length_le]
  rw [List.length_drop]; omega
theorem pick_upto (its : List Value) (k : Nat) : kms_pick its none (some (k : Int)) = its.take k := by
  unfold kms_pick kms_lo kms_hi
  simp only [show ¬ ((k : Int) < 0) by omega, if_false, Int.toNat_natCast, List.drop_zero, Nat.sub_zero]
  exact kmk_take_min its k
theorem slice_from {x : Int} {k : Nat} (F : Fr h₀ L s.heap m) (N : News h₀ L s.heap news) (hm : (l, listOf its n) ∈ news) (hx : x = (k : Int))
    (h : ∀ D h', Fr h₀ L h' m → News h₀ L h' ((D, listOf (its.toList.drop k).toArray 0) :: news) → (∀ p ∈ news, p.1 < D) → Q (.ref D) { s with heap := h' })
    (hs : subscripted slice false (.ref l) (.ref s.heap.objs.size) = operate [.ref s.heap.objs.size, .ref l] (getItem (.ref l) (.ref s.heap.objs.size))) (ht : ∀ r, letTemporaryGo value (.ref l) r = pure ()) (hz : its.size ≤ 1000) :
    wpAny (model PySem.Challenge.rw_og0006_01.row.prog w) A (subscriptTail value slice (.ref l) (.ref s.heap.objs.size)) Q E { s with heap := s.heap.push { cls := .type "slice", data := .fields #[.int x t, .none, .none] } } := by
  subst hx
  refine kmk_slice F N (listOf_isList (N _ hm).1) (IsPart.int _ _) IsPart.none (fun D h' F' N' l1 => h D h' F' ?_ l1) hs ht (by rw [sizeLine_eq]; omega)
  rw [kms_pick_eq, pick_from] at N'; exact N'
theorem slice_upto {x : Int} {k : Nat} (F : Fr h₀ L s.heap m) (N : News h₀ L s.heap news) (hm : (l, listOf its n) ∈ news) (hx : x = (k : Int))
    (h : ∀ D h', Fr h₀ L h' m → News h₀ L h' ((D, listOf (its.toList.take k).toArray 0) :: news) → (∀ p ∈ news, p.1 < D) → Q (.ref D) { s with heap := h' })
    (hs : subscripted slice false (.ref l) (.ref s.heap.objs.size) = operate [.ref s.heap.objs.size, .ref l] (getItem (.ref l) (.ref s.heap.objs.size))) (ht : ∀ r, letTemporaryGo value (.ref l) r = pure ()) (hz : its.size ≤ 1000) :
    wpAny (model PySem.Challenge.rw_og0006_01.row.prog w) A (subscriptTail value slice (.ref l) (.ref s.heap.objs.size)) Q E { s with heap := s.heap.push { cls := .type "slice", data := .fields #[.none, .int x t, .none] } } := by
  subst hx
  refine kmk_slice F N (listOf_isList (N _ hm).1) IsPart.none (IsPart.int _ _) (fun D h' F' N' l1 => h D h' F' ?_ l1) hs ht (by rw [sizeLine_eq]; omega)
  rw [kms_pick_eq, pick_upto] at N'; exact N'
end
theorem TreesIH.use {w : World} {lv : Lv} {n : Nat} (IH : TreesIH w lv n) {row : List RE} {R : Led} {d : Nat} {od : Obj} {kvs : List (Str × Value)} {rl : Nat} {vs : Array Value} {k : Nat} (hD : od.IsDictOf (PySem.strKind PySem.Challenge.rw_og0006_01.row.prog w) kvs) (hL : LvIn R kvs lv) (hd : (d, od) ∈ R) (hrow : (rl, listOf vs k) ∈ R) (hall : All2 (ReIn R) vs.toList row) (hl : row.length ≤ n) (hwf : WF true row) :
  Calls w 438 [.ref d, .ref rl] (n + 2) R (TreesPost R (trees lv n row)) := IH row R d od kvs rl vs k hl hwf hd hD hL hrow hall
local macro_rules | `(tactic| walk_at "subscriptTail Name Slice ref ref") => sq [dk (ru "slice_from" "aamg_wpj"), tl "D' h' F' N' l1" "ls"]
local macro_rules | `(tactic| walk_at "subscriptTail Name Slice ref ref") => sq [dk (ru "slice_upto" "aamg_wpj"), tl "D' h' F' N' l1" "ls"]
local macro_rules | `(tactic| walk_at "call ref") => sq [atCall "438", stop]
inductive TMid (g : Heap) (L' : Addr) (M : Led) (R0 : Led) (s : Shared) (ts : List Tr) : Shared → Prop
  | mk (h' : Heap) (tk' : Nat) (l : Nat) (vs' : Array Value) (n' : Nat) (R1 : Led) (u : Loc) : (Fr g L' h' (fun y => if y = Str.ofString "found" then some (.ref l) else (u : Loc) y)) → (News g L' h' (M ++ R1)) → (Grows R0 R1) → ((∀ p ∈ R1, ∀ q ∈ M, p.1 ≠ q.1)) → ((l, listOf vs' n') ∈ R1) → ((∀ q ∈ R0, @LT.lt Nat _ q.1 l)) → (All2 (TrIn R1) vs'.toList ts) → TMid g L' M R0 s ts ({ s with heap := h', toks := tk' })
theorem TMid.use {g : Heap} {L' : Addr} {M : Led} {R0 : Led} {s : Shared} {ts : List Tr} {j0 : Shared} {C : Shared → Prop} (h : TMid g L' M R0 s ts j0) (k : ∀ (h' : Heap) (tk' : Nat) (l : Nat) (vs' : Array Value) (n' : Nat) (R1 : Led) (u : Loc), (Fr g L' h' (fun y => if y = Str.ofString "found" then some (.ref l) else (u : Loc) y)) → (News g L' h' (M ++ R1)) → (Grows R0 R1) → ((∀ p ∈ R1, ∀ q ∈ M, p.1 ≠ q.1)) → ((l, listOf vs' n') ∈ R1) → ((∀ q ∈ R0, @LT.lt Nat _ q.1 l)) → (All2 (TrIn R1) vs'.toList ts) → C ({ s with heap := h', toks := tk' })) : C j0 := by
  obtain ⟨h', tk', l, vs', n', R1, u, q0, q1, q2, q3, q4, q5, q6⟩ := h
  exact k h' tk' l vs' n' R1 u q0 q1 q2 q3 q4 q5 q6
theorem loc_found {x : Str} {v : Value} {m : Loc} (h : m x = some v) : m = fun y => if y = x then some v else m y := by
  funext y; by_cases e : y = x
  · subst e; simp [h]
  · simp [e]
theorem two_mem {c3 c4 : Nat} {a b : Obj} {q : Addr × Obj} (h : q ∈ [(c3, a), (c4, b)]) : q.1 = c3 ∨ q.1 = c4 := by
  cases h with
  | head => exact .inl rfl
  | tail _ h => cases h with
    | head => exact .inr rfl
    | tail _ h => cases h
theorem two_ne {x y c3 c4 : Nat} (h : y = c3 ∨ y = c4) (h1 : x ≠ c3) (h2 : x ≠ c4) : @Ne Nat x y := by rcases h with h | h <;> rw [h] <;> assumption
theorem TMid.start {g h' : Heap} {L' : Addr} {l n' c1 c2 c3 c4 : Nat} {o1 o2 o3 o4 : Obj} {R : Led} {s : Shared} {tk' : Nat} {m : Loc}
    (F : Fr g L' h' m) (hm : m (Str.ofString "found") = some (.ref l)) (N : News g L' h' ((l, listOf #[] n') :: (c4, o1) :: (c3, o2) :: (c2, o3) :: (c1, o4) :: R))
    (h4 : c4 < l) (h43 : c3 < c4) (h32 : c2 < c3) (h21 : c1 < c2) (hR : ∀ p ∈ R, @LT.lt Nat _ p.1 c1) :
    TMid g L' [(c3, o2), (c4, o1)] ((c2, o3) :: (c1, o4) :: R) s [] { s with heap := h', toks := tk' } := by
  refine ⟨h', tk', l, #[], n', (l, listOf #[] n') :: (c2, o3) :: (c1, o4) :: R, m, loc_found hm ▸ F, News.sub N (by simp; grind), Grows.cons ?_, ?_, .head _, ?_, .nil⟩
  rotate_left
  rotate_left
  all_goals try (intro p hp; skip)
  · rcases List.mem_cons.mp hp with rfl | hp
    · exact Nat.lt_trans h32 (Nat.lt_trans h43 h4)
    rcases List.mem_cons.mp hp with rfl | hp
    · exact Nat.lt_trans h21 (Nat.lt_trans h32 (Nat.lt_trans h43 h4))
    · exact Nat.lt_trans (hR p hp) (Nat.lt_trans h21 (Nat.lt_trans h32 (Nat.lt_trans h43 h4)))
  · rcases List.mem_cons.mp hp with rfl | hp
    · exact Nat.lt_trans h32 (Nat.lt_trans h43 h4)
    rcases List.mem_cons.mp hp with rfl | hp
    · exact Nat.lt_trans h21 (Nat.lt_trans h32 (Nat.lt_trans h43 h4))
    · exact Nat.lt_trans (hR p hp) (Nat.lt_trans h21 (Nat.lt_trans h32 (Nat.lt_trans h43 h4)))
  · intro q hq
    have hq' : q.1 = c3 ∨ q.1 = c4 := two_mem hq
    rcases List.mem_cons.mp hp with rfl | hp
    · exact two_ne hq' (Nat.ne_of_gt (Nat.lt_trans h43 h4)) (Nat.ne_of_gt h4)
    rcases List.mem_cons.mp hp with rfl | hp
    · exact two_ne hq' (Nat.ne_of_lt h32) (Nat.ne_of_lt (Nat.lt_trans h32 h43))
    rcases List.mem_cons.mp hp with rfl | hp
    · exact two_ne hq' (Nat.ne_of_lt (Nat.lt_trans h21 h32)) (Nat.ne_of_lt (Nat.lt_trans h21 (Nat.lt_trans h32 h43)))
    · have h9 := Nat.lt_trans (hR p hp) h21
      exact two_ne hq' (Nat.ne_of_lt (Nat.lt_trans h9 h32)) (Nat.ne_of_lt (Nat.lt_trans h9 (Nat.lt_trans h32 h43)))
theorem Grows.swap {a b : Addr × Obj} {r R' : Led} (g : Grows (a :: b :: r) R') : Grows (b :: a :: r) R' := g.congr' (by (try simp only [List.cons_append, List.nil_append]); (repeat (refine subC (by k_mem) ?_)); exact fun p hp => by k_mem) (by (try simp only [List.cons_append, List.nil_append]); (repeat (refine subC (by k_mem) ?_)); exact fun p hp => by k_mem)
inductive NegJ (led0 : Led) (lF : Nat) (lt : Nat) (tn : Nat) (ts : Array Value) (Ts : List Tr) (lv : Lv) (i : Nat) : Loc → Led → Prop
  | mk (u : Loc) (fv : Array Value) (fn : Nat) (Rk : Led) : (Grows led0 Rk) → ((∀ p ∈ Rk, p.1 ≠ lF)) → ((lt, listOf ts tn) ∈ Rk) → (All2 (TrIn Rk) ts.toList Ts) → (All2 (TrIn Rk) fv.toList (negs lv (Ts.take i))) → (fv.size ≤ i) → NegJ led0 lF lt tn ts Ts lv i (fun y => if y = Str.ofString "found" then some (.ref lF) else u y) ((lF, listOf fv fn) :: Rk)
theorem NegJ.use {led0 : Led} {lF : Nat} {lt : Nat} {tn : Nat} {ts : Array Value} {Ts : List Tr} {lv : Lv} {i : Nat} {j0 : Loc} {j1 : Led} {C : Loc → Led → Prop} (h : NegJ led0 lF lt tn ts Ts lv i j0 j1) (k : ∀ (u : Loc) (fv : Array Value) (fn : Nat) (Rk : Led), (Grows led0 Rk) → ((∀ p ∈ Rk, p.1 ≠ lF)) → ((lt, listOf ts tn) ∈ Rk) → (All2 (TrIn Rk) ts.toList Ts) → (All2 (TrIn Rk) fv.toList (negs lv (Ts.take i))) → (fv.size ≤ i) → C (fun y => if y = Str.ofString "found" then some (.ref lF) else u y) ((lF, listOf fv fn) :: Rk)) : C j0 j1 := by
  obtain ⟨u, fv, fn, Rk, q0, q1, q2, q3, q4, q5⟩ := h
  exact k u fv fn Rk q0 q1 q2 q3 q4 q5
theorem NegJ.of {led0 : Led} {lF : Nat} {lt : Nat} {tn : Nat} {ts : Array Value} {Ts : List Tr} {lv : Lv} {i : Nat} {m : Loc} {news : Led} (u : Loc) (fv : Array Value) (fn : Nat) (Rk : Led) (h0 : m = (fun y => if y = Str.ofString "found" then some (.ref lF) else u y)) (h1 : news = (lF, listOf fv fn) :: Rk) (h2 : Grows led0 Rk) (h3 : (∀ p ∈ Rk, p.1 ≠ lF)) (h4 : (lt, listOf ts tn) ∈ Rk) (h5 : All2 (TrIn Rk) ts.toList Ts) (h6 : All2 (TrIn Rk) fv.toList (negs lv (Ts.take i))) (h7 : fv.size ≤ i) : NegJ led0 lF lt tn ts Ts lv i m news := by
  subst h0; subst h1; exact ⟨u, fv, fn, Rk, h2, h3, h4, h5, h6, h7⟩
theorem negs_snoc {lv : Lv} {Ts : List Tr} {i : Nat} {t : Tr} (h : Ts[i]? = some t) : negs lv (Ts.take (i + 1)) = negs lv (Ts.take i) ++ (if !isNeg t && beside lv .minus t true then [.neg t] else []) := by
  unfold negs
  rw [List.take_add_one, h, List.filter_append, List.map_append]
  cases e : (!isNeg t && beside lv .minus t true) <;> simp [e]
theorem NegJ.skip {g h' : Heap} {L' : Addr} {led0 led Rk : Led} {lF lt tn I fn : Nat} {oI : Obj} {ts fv : Array Value} {Ts : List Tr} {lv : Lv} {i : Nat} {s : Shared} {Q : Flow → Shared → Prop} {tk' : Nat} {m : Loc} {t : Tr}
    (F : Fr g L' h' m) (N : News g L' h' led) (hm : m (Str.ofString "found") = some (.ref lF)) (hsub : ∀ p ∈ (I, oI) :: (lF, listOf fv fn) :: Rk, p ∈ led)
    (hG : Grows led0 Rk) (hne : ∀ p ∈ Rk, p.1 ≠ lF) (hI : ∀ p ∈ (lF, listOf fv fn) :: Rk, p.1 ≠ I) (hlt : (lt, listOf ts tn) ∈ Rk) (hts : All2 (TrIn Rk) ts.toList Ts) (hfv : All2 (TrIn Rk) fv.toList (negs lv (Ts.take i))) (hsz : fv.size ≤ i)
    (ht : Ts[i]? = some t) (hb : (!isNeg t && beside lv .minus t true) = false) :
    TurnPost g L' I oI (NegJ led0 lF lt tn ts Ts lv (i + 1)) s Q .next { s with heap := h', toks := tk' } :=
  ⟨h', tk', m, (lF, listOf fv fn) :: Rk, rfl, F, News.sub N hsub, hI, (NegJ.of m fv fn Rk (loc_found hm) rfl hG hne hlt hts (by rw [negs_snoc ht, hb]; simpa using hfv) (by omega))⟩
theorem NegJ.push {g h' : Heap} {L' : Addr} {led0 led Rk : Led} {lF lt tn I fn fm D : Nat} {oI : Obj} {ts fv : Array Value} {Ts : List Tr} {lv : Lv} {i : Nat} {s : Shared} {Q : Flow → Shared → Prop} {tk' : Nat} {m : Loc} {t : Tr} {v : Value} {t1 : Tok}
    (F : Fr g L' h' m) (N : News g L' h' led) (hm : m (Str.ofString "found") = some (.ref lF)) (hsub : ∀ p ∈ (D, tupOf [.str (Op.str .minus) t1, v]) :: (I, oI) :: (lF, listOf (fv.push (.ref D)) fm) :: Rk, p ∈ led)
    (hG : Grows led0 Rk) (hne : ∀ p ∈ Rk, p.1 ≠ lF) (hI : ∀ p ∈ (lF, listOf fv fn) :: Rk, p.1 ≠ I) (hlt : (lt, listOf ts tn) ∈ Rk) (hts : All2 (TrIn Rk) ts.toList Ts) (hfv : All2 (TrIn Rk) fv.toList (negs lv (Ts.take i))) (hsz : fv.size ≤ i)
    (hv : TrIn Rk v t) (hDl : lF < D) (hDI : I < D) (hDR : ∀ p ∈ Rk, @LT.lt Nat _ p.1 D)
    (ht : Ts[i]? = some t) (hb : (!isNeg t && beside lv .minus t true) = true) :
    TurnPost g L' I oI (NegJ led0 lF lt tn ts Ts lv (i + 1)) s Q .next { s with heap := h', toks := tk' } := by
  have up : ∀ p ∈ Rk, p ∈ (D, tupOf [.str (Op.str .minus) t1, v]) :: Rk := fun p hp => .tail _ hp
  refine ⟨h', tk', m, (lF, listOf (fv.push (.ref D)) fm) :: (D, tupOf [.str (Op.str .minus) t1, v]) :: Rk, rfl, F, News.sub N fun p hp => hsub p (by grind), ?_, (NegJ.of m _ fm _ (loc_found hm) rfl (hG.trans (Grows.cons hDR)) ?_ (.tail _ hlt) (hts.mono fun _ _ x => x.mono up) ?_ ?_)⟩
  · intro p hp
    rcases List.mem_cons.mp hp with rfl | hp
    · exact hI (lF, listOf fv fn) (.head _)
    rcases List.mem_cons.mp hp with rfl | hp
    · exact Nat.ne_of_gt hDI
    · exact hI p (.tail _ hp)
  · intro p hp
    rcases List.mem_cons.mp hp with rfl | hp
    · exact Nat.ne_of_gt hDl
    · exact hne p hp
  · rw [negs_snoc ht, hb, Array.toList_push]
    exact All2.append (hfv.mono fun _ _ x => x.mono up) (.cons (.neg (.head _) (hv.mono up)) .nil)
  · rw [Array.size_push]; omega
theorem NegJ.fin {g h' : Heap} {L' : Addr} {M R0 led0 Rk : Led} {lF fn : Nat} {fv : Array Value} {Ts : List Tr} {lv : Lv} {s : Shared} {tk' n : Nat} {u : Loc}
    (F : Fr g L' h' (fun y => if y = Str.ofString "found" then some (.ref lF) else u y)) (N : News g L' h' ((lF, listOf fv fn) :: Rk)) (hG : Grows led0 Rk) (h0 : ∀ p, p ∈ M ++ R0 → p ∈ led0) (h0' : ∀ p ∈ led0, p ∈ M ++ R0 ∨ ∀ q ∈ M ++ R0, @LT.lt Nat _ q.1 p.1) (hlF : ∀ q ∈ M ++ R0, @LT.lt Nat _ q.1 lF)
    (hM : ∀ p ∈ R0, ∀ q ∈ M, p.1 ≠ q.1) (hMt : ∀ q ∈ M, ∃ v, q.2.data = .cell v) (hfv : All2 (TrIn Rk) fv.toList (negs lv (Ts.take n))) (hn : Ts.length ≤ n) :
    TMid g L' M R0 s (negs lv Ts) { s with heap := h', toks := tk' } := by
  have g1 : Grows (M ++ R0) ((lF, listOf fv fn) :: Rk) := by
    refine ⟨fun p hp => .tail _ (hG.1 p (h0 p hp)), fun p hp => ?_⟩
    rcases List.mem_cons.mp hp with rfl | hp
    · exact .inr hlF
    · rcases hG.2 p hp with h | h
      · exact h0' p h
      · exact .inr fun q hq => h q (h0 q hq)
  obtain ⟨R', gR, hne, hsub, hall⟩ := g1.pullM hM
  refine ⟨h', tk', lF, fv, fn, R', u, F, News.sub N hsub, gR, hne, ?_, fun q hq => hlF q (List.mem_append.mpr (.inr hq)), ?_⟩
  · rcases hall _ (.head _) with h | h
    · obtain ⟨v, hv⟩ := hMt _ h; cases hv
    · exact h
  · rw [List.take_of_length_le hn] at hfv
    refine hfv.mono fun _ _ x => x.monoT fun p hp hc => ?_
    rcases hall p (.tail _ hp) with h | h
    · obtain ⟨v, hv⟩ := hMt _ h
      obtain ⟨_, its, k, hk⟩ := hc
      rw [hv] at hk; cases hk
    · exact h
theorem NegJ.sides {D c1 c2 c3 c4 lF : Nat} {oD o1 o2 o3 o4 : Obj} {R : Led} (h21 : c1 < c2) (h32 : c2 < c3) (h43 : c3 < c4) (h4 : c4 < lF) (hD : lF < D) (hR : ∀ p ∈ R, @LT.lt Nat _ p.1 c1) :
    (∀ p, p ∈ [(c3, o2), (c4, o1)] ++ ((c2, o3) :: (c1, o4) :: R) → p ∈ (D, oD) :: (c4, o1) :: (c3, o2) :: (c2, o3) :: (c1, o4) :: R) ∧
    (∀ p ∈ (D, oD) :: (c4, o1) :: (c3, o2) :: (c2, o3) :: (c1, o4) :: R, p ∈ [(c3, o2), (c4, o1)] ++ ((c2, o3) :: (c1, o4) :: R) ∨ ∀ q ∈ [(c3, o2), (c4, o1)] ++ ((c2, o3) :: (c1, o4) :: R), @LT.lt Nat _ q.1 p.1) ∧
    (∀ q ∈ [(c3, o2), (c4, o1)] ++ ((c2, o3) :: (c1, o4) :: R), @LT.lt Nat _ q.1 lF) ∧
    (∀ p ∈ (c2, o3) :: (c1, o4) :: R, ∀ q ∈ [(c3, o2), (c4, o1)], p.1 ≠ q.1) := by
  have up : ∀ q ∈ [(c3, o2), (c4, o1)] ++ ((c2, o3) :: (c1, o4) :: R), @LT.lt Nat _ q.1 lF := by
    intro q hq
    simp only [List.cons_append, List.nil_append, List.mem_cons] at hq
    rcases hq with rfl | rfl | rfl | rfl | hq
    · exact Nat.lt_trans h43 h4
    · exact h4
    · exact Nat.lt_trans h32 (Nat.lt_trans h43 h4)
    · exact Nat.lt_trans h21 (Nat.lt_trans h32 (Nat.lt_trans h43 h4))
    · exact Nat.lt_trans (hR q hq) (Nat.lt_trans h21 (Nat.lt_trans h32 (Nat.lt_trans h43 h4)))
  refine ⟨?_, ?_, up, ?_⟩
  · exact (by (try simp only [List.cons_append, List.nil_append]); (repeat (refine subC (by k_mem) ?_)); exact fun p hp => by k_mem)
  · intro p hp
    rcases List.mem_cons.mp hp with rfl | hp
    · exact .inr fun q hq => Nat.lt_trans (up q hq) hD
    · refine .inl ?_
      simp only [List.cons_append, List.nil_append, List.mem_cons] at hp ⊢; rcases hp with h | h | h | h | h <;> simp [h]
  · intro p hp q hq
    have hq' : q.1 = c3 ∨ q.1 = c4 := two_mem hq
    have hp' : @LE.le Nat _ p.1 c2 := by
      rcases List.mem_cons.mp hp with rfl | hp
      · exact Nat.le_refl _
      rcases List.mem_cons.mp hp with rfl | hp
      · exact Nat.le_of_lt h21
      · exact Nat.le_of_lt (Nat.lt_trans (hR p hp) h21)
    exact two_ne hq' (Nat.ne_of_lt (Nat.lt_of_le_of_lt hp' h32)) (Nat.ne_of_lt (Nat.lt_of_le_of_lt hp' (Nat.lt_trans h32 h43)))
inductive MainJ (R0 : Led) (c4 : Nat) (lv : Lv) (n : Nat) (row : List RE) (pre : List Tr) (i : Nat) : Loc → Led → Prop
  | mk (u : Loc) (lf : Nat) (fv : Array Value) (fn : Nat) (orr : Obj) (v0 : Option Value) (Rk : Led) : (orr.data = .cell v0) → (Grows R0 Rk) → ((∀ p ∈ Rk, p.1 ≠ c4)) → ((lf, listOf fv fn) ∈ Rk) → ((∀ q ∈ R0, @LT.lt Nat _ q.1 lf)) → (All2 (TrIn Rk) fv.toList (pre ++ (List.range i).flatMap fun j => rootAt lv (trees lv n) row (j + 1))) → MainJ R0 c4 lv n row pre i (fun y => if y = Str.ofString "found" then some (.ref lf) else u y) ((c4, orr) :: Rk)
theorem MainJ.use {R0 : Led} {c4 : Nat} {lv : Lv} {n : Nat} {row : List RE} {pre : List Tr} {i : Nat} {j0 : Loc} {j1 : Led} {C : Loc → Led → Prop} (h : MainJ R0 c4 lv n row pre i j0 j1) (k : ∀ (u : Loc) (lf : Nat) (fv : Array Value) (fn : Nat) (orr : Obj) (v0 : Option Value) (Rk : Led), (orr.data = .cell v0) → (Grows R0 Rk) → ((∀ p ∈ Rk, p.1 ≠ c4)) → ((lf, listOf fv fn) ∈ Rk) → ((∀ q ∈ R0, @LT.lt Nat _ q.1 lf)) → (All2 (TrIn Rk) fv.toList (pre ++ (List.range i).flatMap fun j => rootAt lv (trees lv n) row (j + 1))) → C (fun y => if y = Str.ofString "found" then some (.ref lf) else u y) ((c4, orr) :: Rk)) : C j0 j1 := by
  obtain ⟨u, lf, fv, fn, orr, v0, Rk, q0, q1, q2, q3, q4, q5⟩ := h
  exact k u lf fv fn orr v0 Rk q0 q1 q2 q3 q4 q5
theorem MainJ.of {R0 : Led} {c4 : Nat} {lv : Lv} {n : Nat} {row : List RE} {pre : List Tr} {i : Nat} {m : Loc} {news : Led} (u : Loc) (lf : Nat) (fv : Array Value) (fn : Nat) (orr : Obj) (v0 : Option Value) (Rk : Led) (h0 : m = (fun y => if y = Str.ofString "found" then some (.ref lf) else u y)) (h1 : news = (c4, orr) :: Rk) (h2 : orr.data = .cell v0) (h3 : Grows R0 Rk) (h4 : (∀ p ∈ Rk, p.1 ≠ c4)) (h5 : (lf, listOf fv fn) ∈ Rk) (h6 : (∀ q ∈ R0, @LT.lt Nat _ q.1 lf)) (h7 : All2 (TrIn Rk) fv.toList (pre ++ (List.range i).flatMap fun j => rootAt lv (trees lv n) row (j + 1))) : MainJ R0 c4 lv n row pre i m news := by
  subst h0; subst h1; exact ⟨u, lf, fv, fn, orr, v0, Rk, h2, h3, h4, h5, h6, h7⟩
theorem WF.op_ne {b : Bool} {row : List RE} (h : WF b row) : ∀ {k : Nat} {o : Op}, row[k]? = some (.op o) → o ≠ .minus := by
  induction h with
  | nil => intro k o e; simp at e
  | num _ ih => intro k o e; cases k with
    | zero => simp at e
    | succ k => exact ih (by simpa using e)
  | var _ ih => intro k o e; cases k with
    | zero => simp at e
    | succ k => exact ih (by simpa using e)
  | mnum _ ih => intro k o e; cases k with
    | zero => simp at e
    | succ k => cases k with
      | zero => simp at e
      | succ k => exact ih (by simpa using e)
  | mvar _ ih => intro k o e; cases k with
    | zero => simp at e
    | succ k => cases k with
      | zero => simp at e
      | succ k => exact ih (by simpa using e)
  | op ho _ ih => intro k o e; cases k with
    | zero => simp at e; exact e ▸ ho
    | succ k => exact ih (by simpa using e)
theorem op_minus {o : Op} : (Op.str o == Str.ofString "-") = decide (o = .minus) := by cases o <;> decide
theorem flatMap_snoc {α : Type} (f : Nat → List α) (i : Nat) : (List.range (i + 1)).flatMap f = (List.range i).flatMap f ++ f i := by
  rw [List.range_succ, List.flatMap_append]; simp
theorem MainJ.skip {g h' : Heap} {L' : Addr} {led R0 Rk : Led} {c3 c4 I lf fn n : Nat} {oI oc orr : Obj} {fv : Array Value} {lv : Lv} {row : List RE} {pre : List Tr} {i : Nat} {s : Shared} {Q : Flow → Shared → Prop} {tk' : Nat} {m : Loc} {v0 v1 : Option Value}
    (F : Fr g L' h' m) (N : News g L' h' led) (hm : m (Str.ofString "found") = some (.ref lf)) (hsub : ∀ p ∈ (c3, oc) :: (I, oI) :: (c4, orr) :: Rk, p ∈ led) (hoc : oc.data = .cell v1) (hor : orr.data = .cell v0)
    (hG : Grows R0 Rk) (hne : ∀ p ∈ Rk, p.1 ≠ c4) (hI : ∀ p ∈ (c4, orr) :: Rk, p.1 ≠ I ∧ p.1 ≠ c3) (hlf : (lf, listOf fv fn) ∈ Rk) (hlfR : ∀ q ∈ R0, @LT.lt Nat _ q.1 lf) (hfv : All2 (TrIn Rk) fv.toList (pre ++ (List.range i).flatMap fun j => rootAt lv (trees lv n) row (j + 1)))
    (hr : rootAt lv (trees lv n) row (i + 1) = []) :
    TurnPostC g L' I c3 oI (MainJ R0 c4 lv n row pre (i + 1)) s Q .next { s with heap := h', toks := tk' } :=
  ⟨h', tk', m, oc, (c4, orr) :: Rk, v1, rfl, F, News.sub N hsub, hoc, hI, (MainJ.of m lf fv fn orr v0 Rk (loc_found hm) rfl hor hG hne hlf hlfR (by rw [flatMap_snoc, hr, List.append_nil]; exact hfv))⟩
theorem rootAt_num {lv : Lv} {T : List RE → List Tr} {row : List RE} {k : Nat} {x : RE} (h : row[k]? = some x) (hx : ∀ o, x ≠ .op o) : rootAt lv T row k = [] := by
  unfold rootAt; rw [h]; cases x <;> first | rfl | exact absurd rfl (hx _)
theorem TreesEnd {R Rk : Led} {c1 c2 c3 c4 : Nat} {o1 o2 o3 o4 : Obj} (hG : Grows ((c2, o3) :: (c1, o4) :: R) Rk) (hR : ∀ p ∈ R, @LT.lt Nat _ p.1 c1) (h21 : c1 < c2) (h32 : c2 < c3) (h43 : c3 < c4) : Grows R ((c3, o2) :: (c4, o1) :: Rk) := by
  refine ⟨fun p hp => .tail _ (.tail _ (hG.1 p (.tail _ (.tail _ hp)))), fun p hp => ?_⟩
  rcases List.mem_cons.mp hp with rfl | hp
  · exact .inr fun q hq => Nat.lt_trans (hR q hq) (Nat.lt_trans h21 h32)
  rcases List.mem_cons.mp hp with rfl | hp
  · exact .inr fun q hq => Nat.lt_trans (hR q hq) (Nat.lt_trans h21 (Nat.lt_trans h32 h43))
  · rcases hG.2 p hp with h | h
    · rcases List.mem_cons.mp h with rfl | h
      · exact .inr fun q hq => Nat.lt_trans (hR q hq) h21
      rcases List.mem_cons.mp h with rfl | h
      · exact .inr hR
      · exact .inl h
    · exact .inr fun q hq => h q (.tail _ (.tail _ hq))
theorem trees_eq {lv : Lv} {n : Nat} {row : List RE} {x0 : RE} (h2 : 2 ≤ row.length) (hx : row[0]? = some x0) :
    trees lv (n + 1) row = (if x0 = .minus then negs lv (trees lv n row.tail) else []) ++ (List.range (row.length - 1)).flatMap fun j => rootAt lv (trees lv n) row (j + 1) := by
  match row, h2 with
  | a :: b :: r, _ =>
    have e : a = x0 := by simpa using hx
    subst e
    simp [tr1, tr2, tr3]
theorem MainJ.pull {g h9 : Heap} {L' : Addr} {c3 c4 I D lt tn : Nat} {oD oI oc orr : Obj} {Rk l9 : Led} {ts : Array Value} {Ts : List Tr} {v1 v0 : Option Value}
    (hG : Grows ((D, oD) :: (c3, oc) :: (I, oI) :: (c4, orr) :: Rk) l9) (N : News g L' h9 l9) (hlt : (lt, listOf ts tn) ∈ l9) (hltlt : ∀ q ∈ (D, oD) :: (c3, oc) :: (I, oI) :: (c4, orr) :: Rk, @LT.lt Nat _ q.1 lt) (hts : All2 (TrIn l9) ts.toList Ts)
    (hoc : oc.data = .cell v1) (hor : orr.data = .cell v0) (hI : oI.cls ≠ .type "tuple") (hD : ∀ q ∈ (c3, oc) :: (I, oI) :: (c4, orr) :: Rk, @LT.lt Nat _ q.1 D) (hR : ∀ p ∈ Rk, p.1 ≠ c3 ∧ p.1 ≠ I ∧ p.1 ≠ c4) :
    ∃ R', Grows Rk R' ∧ (∀ p ∈ R', p.1 ≠ c3 ∧ p.1 ≠ I ∧ p.1 ≠ c4) ∧ News g L' h9 ((c3, oc) :: (I, oI) :: (c4, orr) :: R') ∧ (lt, listOf ts tn) ∈ R' ∧ All2 (TrIn R') ts.toList Ts ∧ (∀ q ∈ (c3, oc) :: (I, oI) :: (c4, orr) :: Rk, @LT.lt Nat _ q.1 lt) ∧ ∀ p ∈ R', p ∈ Rk ∨ ∀ q ∈ (c3, oc) :: (I, oI) :: (c4, orr) :: Rk, @LT.lt Nat _ q.1 p.1 := by
  have g2 : Grows ([(c3, oc), (I, oI), (c4, orr)] ++ ((D, oD) :: Rk)) l9 := hG.congr' (by (try simp only [List.cons_append, List.nil_append]); (repeat (refine subC (by k_mem) ?_)); exact fun p hp => by k_mem) (by (try simp only [List.cons_append, List.nil_append]); (repeat (refine subC (by k_mem) ?_)); exact fun p hp => by k_mem)
  obtain ⟨R', gR, hne, hsub, hall⟩ := g2.pullM (by
    intro p hp q hq
    have hq3 : q ∈ (c3, oc) :: (I, oI) :: (c4, orr) :: Rk := by
      exact List.mem_append.mpr (.inl hq : q ∈ [(c3, oc), (I, oI), (c4, orr)] ∨ q ∈ Rk)
    rcases List.mem_cons.mp hp with rfl | hp
    · exact Nat.ne_of_gt (hD q hq3)
    · have := hR p hp
      simp only [List.mem_cons, List.not_mem_nil, or_false] at hq; rcases hq with rfl | rfl | rfl
      · exact this.1
      · exact this.2.1
      · exact this.2.2)
  have key : ∀ p ∈ R', p ∈ Rk ∨ ∀ q ∈ (c3, oc) :: (I, oI) :: (c4, orr) :: Rk, @LT.lt Nat _ q.1 p.1 := by
    intro p hp
    rcases hG.2 p (hsub p (List.mem_append.mpr (.inr hp))) with h | h
    · simp only [List.mem_cons] at h
      rcases h with rfl | rfl | rfl | rfl | h
      · exact .inr hD
      · exact absurd rfl (hne _ hp _ (.head _))
      · exact absurd rfl (hne _ hp _ (.tail _ (.head _)))
      · exact absurd rfl (hne _ hp _ (.tail _ (.tail _ (.head _))))
      · exact .inl h
    · exact .inr fun q hq => h q (.tail _ hq)
  refine ⟨R', ⟨fun p hp => gR.1 p (.tail _ hp), fun p hp => (key p hp).imp id fun h q hq => h q (.tail _ (.tail _ (.tail _ hq)))⟩, fun p hp => ⟨hne p hp _ (.head _), hne p hp _ (.tail _ (.head _)), hne p hp _ (.tail _ (.tail _ (.head _)))⟩, News.sub N hsub, ?_, ?_, fun q hq => hltlt q (.tail _ hq), key⟩
  · rcases hall _ hlt with h | h
    · have := hltlt (lt, listOf ts tn) (.tail _ (List.mem_append.mpr (.inl h) : (lt, listOf ts tn) ∈ [(c3, oc), (I, oI), (c4, orr)] ++ Rk))
      exact absurd this (Nat.lt_irrefl _)
    · exact h
  · refine hts.mono fun _ _ x => x.monoT fun p hp hc => ?_
    rcases hall p hp with h | h
    · simp only [List.mem_cons, List.not_mem_nil, or_false] at h
      obtain ⟨hc1, its, k, hk⟩ := hc
      rcases h with rfl | rfl | rfl
      · rw [show ((c3, oc) : Addr × Obj).2.data = _ from hoc] at hk; cases hk
      · exact absurd hc1 hI
      · rw [show ((c4, orr) : Addr × Obj).2.data = _ from hor] at hk; cases hk
    · exact h
theorem WF.cut {b : Bool} {row : List RE} (h : WF b row) : ∀ {k : Nat} {o : Op}, row[k]? = some (.op o) → WF b (row.take k) ∧ WF true (row.drop (k + 1)) := by
  induction h with
  | nil => intro k o e; simp at e
  | num _ ih => intro k o e; cases k with
    | zero => simp at e
    | succ k => exact ⟨.num (ih (by simpa using e)).1, (ih (by simpa using e)).2⟩
  | var _ ih => intro k o e; cases k with
    | zero => simp at e
    | succ k => exact ⟨.var (ih (by simpa using e)).1, (ih (by simpa using e)).2⟩
  | mnum _ ih => intro k o e; cases k with
    | zero => simp at e
    | succ k => cases k with
      | zero => simp at e
      | succ k => exact ⟨.mnum (ih (by simpa using e)).1, (ih (by simpa using e)).2⟩
  | mvar _ ih => intro k o e; cases k with
    | zero => simp at e
    | succ k => cases k with
      | zero => simp at e
      | succ k => exact ⟨.mvar (ih (by simpa using e)).1, (ih (by simpa using e)).2⟩
  | op ho hr ih => intro k o e; cases k with
    | zero => exact ⟨.nil, by simpa using hr⟩
    | succ k => exact ⟨.op ho (ih (by simpa using e)).1, (ih (by simpa using e)).2⟩
noncomputable def LeftJ (news0 : Led) (P : Tr → Bool) (Ts : List Tr) (i : Nat) (ys : Array Value) (nw : Led) : Prop := nw = news0 ∧ All2 (TrIn news0) ys.toList ((Ts.take i).filter P)
theorem LeftJ.push {nw R : Led} {P : Tr → Bool} {Ts : List Tr} {i : Nat} {ys : Array Value} {t : Tr} {v : Value} (h : All2 (TrIn nw) ys.toList ((Ts.take i).filter P)) (ht : Ts[i]? = some t) (hv : TrIn R v t) (hp : P t = true) (hs : ∀ p ∈ R, p ∈ nw) :
    All2 (TrIn nw) (ys.push v).toList ((Ts.take (i + 1)).filter P) := by
  rw [List.take_add_one, ht, List.filter_append, Array.toList_push]
  exact All2.append h (by simp only [Option.toList, List.filter_cons, hp, if_true, List.filter_nil]; exact .cons (hv.mono hs) .nil)
theorem LeftJ.skip {nw : Led} {P : Tr → Bool} {Ts : List Tr} {i : Nat} {ys : Array Value} {t : Tr} (h : All2 (TrIn nw) ys.toList ((Ts.take i).filter P)) (ht : Ts[i]? = some t) (hp : P t = false) :
    All2 (TrIn nw) ys.toList ((Ts.take (i + 1)).filter P) := by
  rw [List.take_add_one, ht, List.filter_append]
  simpa [hp] using h
inductive RMid (g : Heap) (L' : Addr) (M : Led) (Rk : Led) (lf : Nat) (D2 : Nat) (s : Shared) (Rs : List Tr) : Shared → Prop
  | mk (h' : Heap) (tk' : Nat) (lr : Nat) (rs : Array Value) (rn : Nat) (R1 : Led) (u : Loc) : (Fr g L' h' (fun y => if y = Str.ofString "found" then some (.ref lf) else if y = Str.ofString "lefts" then some (.ref D2) else if y = Str.ofString "rights" then some (.ref lr) else (u : Loc) y)) → (News g L' h' (M ++ R1)) → (Grows Rk R1) → ((∀ p ∈ R1, ∀ q ∈ M, p.1 ≠ q.1)) → ((lr, listOf rs rn) ∈ R1) → (All2 (TrIn R1) rs.toList Rs) → RMid g L' M Rk lf D2 s Rs ({ s with heap := h', toks := tk' })
theorem RMid.use {g : Heap} {L' : Addr} {M : Led} {Rk : Led} {lf : Nat} {D2 : Nat} {s : Shared} {Rs : List Tr} {j0 : Shared} {C : Shared → Prop} (h : RMid g L' M Rk lf D2 s Rs j0) (k : ∀ (h' : Heap) (tk' : Nat) (lr : Nat) (rs : Array Value) (rn : Nat) (R1 : Led) (u : Loc), (Fr g L' h' (fun y => if y = Str.ofString "found" then some (.ref lf) else if y = Str.ofString "lefts" then some (.ref D2) else if y = Str.ofString "rights" then some (.ref lr) else (u : Loc) y)) → (News g L' h' (M ++ R1)) → (Grows Rk R1) → ((∀ p ∈ R1, ∀ q ∈ M, p.1 ≠ q.1)) → ((lr, listOf rs rn) ∈ R1) → (All2 (TrIn R1) rs.toList Rs) → C ({ s with heap := h', toks := tk' })) : C j0 := by
  obtain ⟨h', tk', lr, rs, rn, R1, u, q0, q1, q2, q3, q4, q5⟩ := h
  exact k h' tk' lr rs rn R1 u q0 q1 q2 q3 q4 q5
theorem loc_found2 {x y : Str} {a b : Value} {m : Loc} (h1 : m x = some a) (h2 : m y = some b) : m = fun t => if t = x then some a else if t = y then some b else m t := by
  funext t; by_cases e : t = x
  · subst e; simp [h1]
  · by_cases e2 : t = y
    · subst e2; simp [h2, e]
    · simp [e, e2]
theorem loc_found3 {x y z : Str} {a b c : Value} {m : Loc} (h1 : m x = some a) (h2 : m y = some b) (h3 : m z = some c) : m = fun t => if t = x then some a else if t = y then some b else if t = z then some c else m t := by
  funext t; by_cases e : t = x
  · subst e; simp [h1]
  · by_cases e2 : t = y
    · subst e2; simp [h2, e]
    · by_cases e3 : t = z
      · subst e3; simp [h3, e, e2]
      · simp [e, e2, e3]
theorem RMid.mk' {g h9 : Heap} {L' : Addr} {c3 c4 I D2 lf lr rn : Nat} {oD oI oc orr : Obj} {Rk led : Led} {rs : Array Value} {Rs : List Tr} {v1 v0 : Option Value} {m : Loc} {s : Shared} {tk' : Nat}
    (F : Fr g L' h9 m) (h1 : m (Str.ofString "found") = some (.ref lf)) (h2 : m (Str.ofString "lefts") = some (.ref D2)) (h3 : m (Str.ofString "rights") = some (.ref lr)) (N : News g L' h9 led) (G : Grows ((D2, oD) :: (c3, oc) :: (I, oI) :: (c4, orr) :: Rk) led)
    (hlr : (lr, listOf rs rn) ∈ led) (hltlt : ∀ q ∈ [(c3, oc), (I, oI), (c4, orr)], @LT.lt Nat _ q.1 lr) (hrs : All2 (TrIn led) rs.toList Rs)
    (hoc : oc.data = .cell v1) (hor : orr.data = .cell v0) (hI : oI.cls ≠ .type "tuple") (hD : ∀ q ∈ (c3, oc) :: (I, oI) :: (c4, orr) :: Rk, @LT.lt Nat _ q.1 D2) (hR : ∀ p ∈ Rk, p.1 ≠ c3 ∧ p.1 ≠ I ∧ p.1 ≠ c4) :
    RMid g L' [(c3, oc), (I, oI), (c4, orr)] ((D2, oD) :: Rk) lf D2 s Rs { s with heap := h9, toks := tk' } := by
  have g2 : Grows ([(c3, oc), (I, oI), (c4, orr)] ++ ((D2, oD) :: Rk)) led := G.congr' (by (try simp only [List.cons_append, List.nil_append]); (repeat (refine subC (by k_mem) ?_)); exact fun p hp => by k_mem) (by (try simp only [List.cons_append, List.nil_append]); (repeat (refine subC (by k_mem) ?_)); exact fun p hp => by k_mem)
  obtain ⟨R', gR, hne, hsub, hall⟩ := g2.pullM (by
    intro p hp q hq
    rcases List.mem_cons.mp hp with rfl | hp
    · exact Nat.ne_of_gt (hD q (List.mem_append.mpr (.inl hq) : q ∈ [(c3, oc), (I, oI), (c4, orr)] ++ Rk))
    · have := hR p hp
      simp only [List.mem_cons, List.not_mem_nil, or_false] at hq; rcases hq with rfl | rfl | rfl
      · exact this.1
      · exact this.2.1
      · exact this.2.2)
  refine ⟨h9, tk', lr, rs, rn, R', m, loc_found3 h1 h2 h3 ▸ F, News.sub N hsub, gR, hne, ?_, ?_⟩
  · rcases hall _ hlr with h | h
    · exact absurd (hltlt _ h) (Nat.lt_irrefl _)
    · exact h
  · refine hrs.mono fun _ _ x => x.monoT fun p hp hc => ?_
    rcases hall p hp with h | h
    · simp only [List.mem_cons, List.not_mem_nil, or_false] at h
      obtain ⟨hc1, its, k, hk⟩ := hc
      rcases h with rfl | rfl | rfl
      · rw [show ((c3, oc) : Addr × Obj).2.data = _ from hoc] at hk; cases hk
      · exact absurd hc1 hI
      · rw [show ((c4, orr) : Addr × Obj).2.data = _ from hor] at hk; cases hk
    · exact h
inductive InnerJ (c3 : Nat) (I : Nat) (oc : Obj) (oI : Obj) (Rk3 : Led) (D2 : Nat) (R0 : Led) (acc : List Tr) (Ls : List Tr) (Rs : List Tr) (lv : Lv) (o : Op) (j : Nat) : Loc → Led → Prop
  | mk (u : Loc) (lf : Nat) (fv : Array Value) (fn : Nat) (Rk4 : Led) : (Grows Rk3 Rk4) → ((∀ p ∈ Rk4, p.1 ≠ c3 ∧ p.1 ≠ I)) → ((lf, listOf fv fn) ∈ Rk4) → ((∀ q ∈ R0, @LT.lt Nat _ q.1 lf)) → (All2 (TrIn Rk4) fv.toList (acc ++ ((Rs.take j).filter fun t => beside lv o t true && signedOk lv o t).flatMap fun r => Ls.map fun l => .bin o l r)) → InnerJ c3 I oc oI Rk3 D2 R0 acc Ls Rs lv o j (fun y => if y = Str.ofString "found" then some (.ref lf) else if y = Str.ofString "lefts" then some (.ref D2) else u y) ((c3, oc) :: (I, oI) :: Rk4)
theorem InnerJ.use {c3 : Nat} {I : Nat} {oc : Obj} {oI : Obj} {Rk3 : Led} {D2 : Nat} {R0 : Led} {acc : List Tr} {Ls : List Tr} {Rs : List Tr} {lv : Lv} {o : Op} {j : Nat} {j0 : Loc} {j1 : Led} {C : Loc → Led → Prop} (h : InnerJ c3 I oc oI Rk3 D2 R0 acc Ls Rs lv o j j0 j1) (k : ∀ (u : Loc) (lf : Nat) (fv : Array Value) (fn : Nat) (Rk4 : Led), (Grows Rk3 Rk4) → ((∀ p ∈ Rk4, p.1 ≠ c3 ∧ p.1 ≠ I)) → ((lf, listOf fv fn) ∈ Rk4) → ((∀ q ∈ R0, @LT.lt Nat _ q.1 lf)) → (All2 (TrIn Rk4) fv.toList (acc ++ ((Rs.take j).filter fun t => beside lv o t true && signedOk lv o t).flatMap fun r => Ls.map fun l => .bin o l r)) → C (fun y => if y = Str.ofString "found" then some (.ref lf) else if y = Str.ofString "lefts" then some (.ref D2) else u y) ((c3, oc) :: (I, oI) :: Rk4)) : C j0 j1 := by
  obtain ⟨u, lf, fv, fn, Rk4, q0, q1, q2, q3, q4⟩ := h
  exact k u lf fv fn Rk4 q0 q1 q2 q3 q4
theorem InnerJ.of {c3 : Nat} {I : Nat} {oc : Obj} {oI : Obj} {Rk3 : Led} {D2 : Nat} {R0 : Led} {acc : List Tr} {Ls : List Tr} {Rs : List Tr} {lv : Lv} {o : Op} {j : Nat} {m : Loc} {news : Led} (u : Loc) (lf : Nat) (fv : Array Value) (fn : Nat) (Rk4 : Led) (h0 : m = (fun y => if y = Str.ofString "found" then some (.ref lf) else if y = Str.ofString "lefts" then some (.ref D2) else u y)) (h1 : news = (c3, oc) :: (I, oI) :: Rk4) (h2 : Grows Rk3 Rk4) (h3 : (∀ p ∈ Rk4, p.1 ≠ c3 ∧ p.1 ≠ I)) (h4 : (lf, listOf fv fn) ∈ Rk4) (h5 : (∀ q ∈ R0, @LT.lt Nat _ q.1 lf)) (h6 : All2 (TrIn Rk4) fv.toList (acc ++ ((Rs.take j).filter fun t => beside lv o t true && signedOk lv o t).flatMap fun r => Ls.map fun l => .bin o l r)) : InnerJ c3 I oc oI Rk3 D2 R0 acc Ls Rs lv o j m news := by
  subst h0; subst h1; exact ⟨u, lf, fv, fn, Rk4, h2, h3, h4, h5, h6⟩
inductive PairJ (M4 : Led) (Rk4 : Led) (Ls : List Tr) (o : Op) (r : Tr) (j : Nat) (ys : Array Value) : Led → Prop
  | mk (Rk5 : _) : (Grows Rk4 Rk5) → ((∀ p ∈ Rk5, ∀ q ∈ M4, p.1 ≠ q.1)) → (All2 (TrIn Rk5) ys.toList ((Ls.take j).map fun l => .bin o l r)) → PairJ M4 Rk4 Ls o r j ys (M4 ++ Rk5)
theorem PairJ.use {M4 : Led} {Rk4 : Led} {Ls : List Tr} {o : Op} {r : Tr} {j : Nat} {ys : Array Value} {j0 : Led} {C : Led → Prop} (h : PairJ M4 Rk4 Ls o r j ys j0) (k : ∀ (Rk5 : _), (Grows Rk4 Rk5) → ((∀ p ∈ Rk5, ∀ q ∈ M4, p.1 ≠ q.1)) → (All2 (TrIn Rk5) ys.toList ((Ls.take j).map fun l => .bin o l r)) → C (M4 ++ Rk5)) : C j0 := by
  obtain ⟨Rk5, q0, q1, q2⟩ := h
  exact k Rk5 q0 q1 q2
theorem inner_snoc {lv : Lv} {o : Op} {Ls Rs : List Tr} {j : Nat} {r : Tr} (h : Rs[j]? = some r) :
    ((Rs.take (j + 1)).filter fun t => beside lv o t true && signedOk lv o t).flatMap (fun r => Ls.map fun l => Tr.bin o l r) = (((Rs.take j).filter fun t => beside lv o t true && signedOk lv o t).flatMap fun r => Ls.map fun l => Tr.bin o l r) ++ (if beside lv o r true && signedOk lv o r then Ls.map fun l => Tr.bin o l r else []) := by
  rw [List.take_add_one, h, List.filter_append, List.flatMap_append]
  cases e : (beside lv o r true && signedOk lv o r) <;> simp [e]
theorem InnerJ.skip {g h' : Heap} {L' : Addr} {c3 c4 I I2 D2 lf fn : Nat} {oc oI oI2 oc4 : Obj} {R0 Rk3 Rk4 : Led} {fv : Array Value} {acc Ls Rs : List Tr} {lv : Lv} {o : Op} {j : Nat} {r : Tr} {u : Loc} {s : Shared} {Q : Flow → Shared → Prop} {tk' : Nat} {v4 : Option Value}
    (F : Fr g L' h' (fun y => if y = Str.ofString "found" then some (.ref lf) else if y = Str.ofString "lefts" then some (.ref D2) else u y)) (N : News g L' h' ((c4, oc4) :: (I2, oI2) :: (c3, oc) :: (I, oI) :: Rk4)) (hoc4 : oc4.data = .cell v4) (hn : ∀ p ∈ (c3, oc) :: (I, oI) :: Rk4, p.1 ≠ I2 ∧ p.1 ≠ c4)
    (hg : Grows Rk3 Rk4) (hne : ∀ p ∈ Rk4, p.1 ≠ c3 ∧ p.1 ≠ I) (hlf : (lf, listOf fv fn) ∈ Rk4) (hlfR : ∀ q ∈ R0, @LT.lt Nat _ q.1 lf)
    (hfv : All2 (TrIn Rk4) fv.toList (acc ++ ((Rs.take j).filter fun t => beside lv o t true && signedOk lv o t).flatMap fun r => Ls.map fun l => .bin o l r)) (hr : Rs[j]? = some r) (hb : beside lv o r true = false ∨ signedOk lv o r = false) :
    TurnPostC g L' I2 c4 oI2 (InnerJ c3 I oc oI Rk3 D2 R0 acc Ls Rs lv o (j + 1)) s Q .next { s with heap := h', toks := tk' } := by
  refine ⟨h', tk', _, oc4, (c3, oc) :: (I, oI) :: Rk4, v4, rfl, F, N, hoc4, hn, ⟨u, lf, fv, fn, Rk4, hg, hne, hlf, hlfR, ?_⟩⟩
  rw [inner_snoc hr]
  have : (beside lv o r true && signedOk lv o r) = false := by rcases hb with h | h <;> simp [h]
  rw [this]; simpa using hfv
theorem flatMap_len1 {α β : Type} {f : α → List β} (h : ∀ x, (f x).length ≤ 1) : ∀ l : List α, (l.flatMap f).length ≤ l.length
  | [] => Nat.le_refl _
  | a :: r => by rw [List.flatMap_cons, List.length_append, List.length_cons]; have := flatMap_len1 h r; have := h a; omega
theorem flatMap_range_mono {α : Type} (f : Nat → List α) {i : Nat} : ∀ {m : Nat}, i ≤ m → ((List.range i).flatMap f).length ≤ ((List.range m).flatMap f).length := by
  intro m h
  induction m with
  | zero => rw [Nat.le_zero.mp h]; exact Nat.le_refl _
  | succ m ih =>
    rcases Nat.lt_or_ge i (m + 1) with h1 | h1
    · have := ih (Nat.le_of_lt_succ h1)
      rw [flatMap_snoc, List.length_append]; omega
    · rw [Nat.le_antisymm h h1]; exact Nat.le_refl _
theorem PairJ.push {h₀ h' : Heap} {L : Addr} {m : Loc} {I3 C D3 D9 k3 : Nat} {oI3 oC : Obj} {ys : Array Value} {M4 Rk4 Rk5 : Led} {Ls : List Tr} {o : Op} {r l : Tr} {j : Nat} {s : Shared} {tk' : Nat} {t9 : Tok} {vl v : Value} {R : Led}
    (F : Fr h₀ L h' m) (N : News h₀ L h' ((D9, tupOf [.str o.str t9, vl, v]) :: (C, oC) :: (D3, listOf ys k3) :: (I3, oI3) :: (M4 ++ Rk5))) (hne : ∀ p ∈ M4 ++ Rk5, p.1 ≠ C ∧ p.1 ≠ D3 ∧ p.1 ≠ I3) (hD9 : ∀ q ∈ (C, oC) :: (D3, listOf ys k3) :: (I3, oI3) :: (M4 ++ Rk5), @LT.lt Nat _ q.1 D9)
    (g : Grows Rk4 Rk5) (hM : ∀ p ∈ Rk5, ∀ q ∈ M4, p.1 ≠ q.1) (hys : All2 (TrIn Rk5) ys.toList ((Ls.take j).map fun l => .bin o l r)) (hl : Ls[j]? = some l) (hvl : TrIn R vl l) (hv : TrIn R v r) (hR : ∀ p ∈ R, p ∈ Rk5) :
    CompEnd h₀ L m I3 C D3 oI3 oC ys k3 (PairJ M4 Rk4 Ls o r (j + 1)) s (.ref D9) { s with heap := h', toks := tk' } := by
  have up : ∀ p ∈ Rk5, p ∈ (D9, tupOf [.str o.str t9, vl, v]) :: Rk5 := fun p hp => .tail _ hp
  refine ⟨h', tk', M4 ++ ((D9, tupOf [.str o.str t9, vl, v]) :: Rk5), rfl, F, News.sub N fun p hp => ?_, fun p hp => ?_, (D9, tupOf [.str o.str t9, vl, v]) :: Rk5, g.trans (Grows.cons fun q hq => hD9 q (.tail _ (.tail _ (.tail _ (List.mem_append.mpr (.inr hq)))))), fun p hp q hq => ?_, ?_⟩
  · simp only [List.mem_cons, List.mem_append] at hp ⊢
    rcases hp with h | h | h | h | h | h <;> simp [h]
  · rcases List.mem_append.mp hp with hp | hp
    · exact hne p (List.mem_append.mpr (.inl hp))
    rcases List.mem_cons.mp hp with rfl | hp
    · exact ⟨Nat.ne_of_gt (hD9 _ (.head _)), Nat.ne_of_gt (hD9 _ (.tail _ (.head _))), Nat.ne_of_gt (hD9 _ (.tail _ (.tail _ (.head _))))⟩
    · exact hne p (List.mem_append.mpr (.inr hp))
  · rcases List.mem_cons.mp hp with rfl | hp
    · exact Nat.ne_of_gt (hD9 q (.tail _ (.tail _ (.tail _ (List.mem_append.mpr (.inl hq))))))
    · exact hM p hp q hq
  · rw [List.take_add_one, hl, List.map_append, Array.toList_push]
    exact All2.append (hys.mono fun _ _ x => x.mono up) (.cons (.bin (.head _) (hvl.mono fun p hp => up p (hR p hp)) (hv.mono fun p hp => up p (hR p hp))) .nil)
theorem InnerJ.push {g h' : Heap} {L' : Addr} {c3 c4 I I2 D2 Df Dc kc fnew : Nat} {oc oI oI2 oc4 : Obj} {R0 Rk3 Rk4 Rk5 : Led} {fv ys : Array Value} {acc Ls Rs : List Tr} {lv : Lv} {o : Op} {j : Nat} {r : Tr} {m : Loc} {s : Shared} {Q : Flow → Shared → Prop} {tk' : Nat} {v4 : Option Value}
    (F : Fr g L' h' m) (hm1 : m (Str.ofString "found") = some (.ref Df)) (hm2 : m (Str.ofString "lefts") = some (.ref D2)) (N : News g L' h' ((Df, listOf (fv.toList ++ ys.toList).toArray fnew) :: (Dc, listOf ys kc) :: (c4, oc4) :: (I2, oI2) :: (c3, oc) :: (I, oI) :: Rk5)) (hoc4 : oc4.data = .cell v4)
    (hDf : ∀ q ∈ (Dc, listOf ys kc) :: (c4, oc4) :: (I2, oI2) :: (c3, oc) :: (I, oI) :: Rk5, @LT.lt Nat _ q.1 Df) (hDc : ∀ q ∈ (c4, oc4) :: (I2, oI2) :: (c3, oc) :: (I, oI) :: Rk4, @LT.lt Nat _ q.1 Dc) (hDcR : ∀ p ∈ Rk5, p.1 ≠ Dc)
    (hn : ∀ p ∈ (c3, oc) :: (I, oI) :: Rk4, p.1 ≠ I2 ∧ p.1 ≠ c4) (hg : Grows Rk3 Rk4) (hg5 : Grows Rk4 Rk5) (hne5 : ∀ p ∈ Rk5, ∀ q ∈ [(c4, oc4), (I2, oI2), (c3, oc), (I, oI)], p.1 ≠ q.1) (hR0 : ∀ p ∈ R0, p ∈ Rk4)
    (hfv : All2 (TrIn Rk4) fv.toList (acc ++ ((Rs.take j).filter fun t => beside lv o t true && signedOk lv o t).flatMap fun r => Ls.map fun l => .bin o l r)) (hys : All2 (TrIn Rk5) ys.toList (Ls.map fun l => .bin o l r)) (hr : Rs[j]? = some r) (hb : beside lv o r true = true) (hb2 : signedOk lv o r = true) :
    TurnPostC g L' I2 c4 oI2 (InnerJ c3 I oc oI Rk3 D2 R0 acc Ls Rs lv o (j + 1)) s Q .next { s with heap := h', toks := tk' } := by
  have up : ∀ p ∈ Rk5, p ∈ (Df, listOf (fv.toList ++ ys.toList).toArray fnew) :: (Dc, listOf ys kc) :: Rk5 := fun p hp => .tail _ (.tail _ hp)
  have key : Grows Rk4 ((Df, listOf (fv.toList ++ ys.toList).toArray fnew) :: (Dc, listOf ys kc) :: Rk5) := by
    refine ⟨fun p hp => up p (hg5.1 p hp), fun p hp => ?_⟩
    rcases List.mem_cons.mp hp with rfl | hp
    · exact .inr fun q hq => hDf q (.tail _ (.tail _ (.tail _ (.tail _ (.tail _ (hg5.1 q hq))))))
    rcases List.mem_cons.mp hp with rfl | hp
    · exact .inr fun q hq => hDc q (.tail _ (.tail _ (.tail _ (.tail _ hq))))
    · exact hg5.2 p hp
  refine ⟨h', tk', m, oc4, (c3, oc) :: (I, oI) :: ((Df, listOf (fv.toList ++ ys.toList).toArray fnew) :: (Dc, listOf ys kc) :: Rk5), v4, rfl, F, News.sub N (by (try simp only [List.cons_append, List.nil_append]); (repeat (refine subC (by k_mem) ?_)); exact fun p hp => by k_mem), hoc4, ?_, InnerJ.of m Df _ fnew ((Df, listOf (fv.toList ++ ys.toList).toArray fnew) :: (Dc, listOf ys kc) :: Rk5) (loc_found2 hm1 hm2) rfl (hg.trans key) ?_ (.head _) ?_ ?_⟩
  · intro p hp
    rcases List.mem_cons.mp hp with rfl | hp
    · exact hn _ (.head _)
    rcases List.mem_cons.mp hp with rfl | hp
    · exact hn _ (.tail _ (.head _))
    rcases List.mem_cons.mp hp with rfl | hp
    · exact ⟨Nat.ne_of_gt (hDf _ (.tail _ (.tail _ (.head _)))), Nat.ne_of_gt (hDf _ (.tail _ (.head _)))⟩
    rcases List.mem_cons.mp hp with rfl | hp
    · exact ⟨Nat.ne_of_gt (hDc _ (.tail _ (.head _))), Nat.ne_of_gt (hDc _ (.head _))⟩
    · exact ⟨hne5 p hp _ (.tail _ (.head _)), hne5 p hp _ (.head _)⟩
  · intro p hp
    rcases List.mem_cons.mp hp with rfl | hp
    · exact ⟨Nat.ne_of_gt (hDf _ (.tail _ (.tail _ (.tail _ (.head _))))), Nat.ne_of_gt (hDf _ (.tail _ (.tail _ (.tail _ (.tail _ (.head _))))))⟩
    rcases List.mem_cons.mp hp with rfl | hp
    · exact ⟨Nat.ne_of_gt (hDc _ (.tail _ (.tail _ (.head _)))), Nat.ne_of_gt (hDc _ (.tail _ (.tail _ (.tail _ (.head _)))))⟩
    · exact ⟨hne5 p hp _ (.tail _ (.tail _ (.head _))), hne5 p hp _ (.tail _ (.tail _ (.tail _ (.head _))))⟩
  · exact fun q hq => hDf q (.tail _ (.tail _ (.tail _ (.tail _ (.tail _ (hg5.1 q (hR0 q hq)))))))
  · rw [inner_snoc hr]
    have : (beside lv o r true && signedOk lv o r) = true := by simp [hb, hb2]
    rw [this, if_pos rfl, ← List.append_assoc]
    exact All2.append (hfv.mono fun _ _ x => x.mono fun p hp => up p (hg5.1 p hp)) (hys.mono fun _ _ x => x.mono up)
theorem rootAt_op {lv : Lv} {T : List RE → List Tr} {row : List RE} {k : Nat} {o : Op} (h : row[k]? = some (.op o)) (Rs : List Tr) (hRs : Rs = if (T (row.take k)).filter (fun t => beside lv o t false) = [] then [] else T (row.drop (k + 1))) :
    rootAt lv T row k = (Rs.filter fun t => beside lv o t true && signedOk lv o t).flatMap fun r => ((T (row.take k)).filter fun t => beside lv o t false).map fun l => .bin o l r := by
  unfold rootAt; rw [h, hRs]
theorem MainJ.push {g h' : Heap} {L' : Addr} {c3 c4 I lf fn n : Nat} {oI oc oc4 : Obj} {R0 Rk4 : Led} {fv : Array Value} {lv : Lv} {row : List RE} {pre : List Tr} {i : Nat} {s : Shared} {Q : Flow → Shared → Prop} {tk' : Nat} {m : Loc} {v4 v1 : Option Value} {o : Op} {Rs : List Tr} {q : Nat}
    (F : Fr g L' h' m) (hm : m (Str.ofString "found") = some (.ref lf)) (N : News g L' h' ((c4, oc4) :: (c3, oc) :: (I, oI) :: Rk4)) (hoc : oc.data = .cell v1) (hoc4 : oc4.data = .cell v4) (hG : Grows R0 Rk4) (hne : ∀ p ∈ Rk4, p.1 ≠ c3 ∧ p.1 ≠ I) (hn4 : ∀ p ∈ (c3, oc) :: (I, oI) :: Rk4, p.1 ≠ c4) (hlf : (lf, listOf fv fn) ∈ Rk4) (hlfR : ∀ q ∈ R0, @LT.lt Nat _ q.1 lf)
    (hfv : All2 (TrIn Rk4) fv.toList ((pre ++ (List.range i).flatMap fun j => rootAt lv (trees lv n) row (j + 1)) ++ ((Rs.take q).filter fun t => beside lv o t true && signedOk lv o t).flatMap fun r => ((trees lv n (row.take (i + 1))).filter fun t => beside lv o t false).map fun l => .bin o l r)) (hq : Rs.length ≤ q)
    (hx : row[i + 1]? = some (.op o)) (hRs : Rs = if (trees lv n (row.take (i + 1))).filter (fun t => beside lv o t false) = [] then [] else trees lv n (row.drop (i + 1 + 1))) :
    TurnPostC g L' I c3 oI (MainJ R0 c4 lv n row pre (i + 1)) s Q .next { s with heap := h', toks := tk' } := by
  refine ⟨h', tk', m, oc, (c4, oc4) :: Rk4, v1, rfl, F, News.sub N (by (try simp only [List.cons_append, List.nil_append]); (repeat (refine subC (by k_mem) ?_)); exact fun p hp => by k_mem), hoc, ?_, MainJ.of m lf fv fn oc4 v4 Rk4 (loc_found hm) rfl hoc4 hG (fun p hp => hn4 p (.tail _ (.tail _ hp))) hlf hlfR ?_⟩
  · intro p hp
    rcases List.mem_cons.mp hp with rfl | hp
    · exact ⟨Ne.symm (hn4 _ (.tail _ (.head _))), Ne.symm (hn4 _ (.head _))⟩
    · exact ⟨(hne p hp).2, (hne p hp).1⟩
  · rw [flatMap_snoc, rootAt_op hx Rs hRs, ← List.append_assoc]
    rw [List.take_of_length_le hq] at hfv
    exact hfv
theorem add_own {w : World} {A : Around} {E : Value → Shared → Prop} {s : Shared} {h₀ : Heap} {L : Addr} {m : Loc} {news : Led} {a b n1 n2 : Nat} {its its2 : Array Value} {Q : Value → Shared → Prop} (F : Fr h₀ L s.heap m) (N : News h₀ L s.heap news) (ha : (a, listOf its n1) ∈ news) (hb : (b, listOf its2 n2) ∈ news)
    (h : ∀ D h', Fr h₀ L h' m → News h₀ L h' ((D, listOf (its.toList ++ its2.toList).toArray 0) :: news) → (∀ p ∈ news, p.1 < D) → Q (.ref D) { s with heap := h' }) (hz : its.toList.length + its2.toList.length ≤ sizeLine) :
    wpAny (model PySem.Challenge.rw_og0006_01.row.prog w) A (binaryOp .Add (.ref a) (.ref b)) Q E s :=
  kmk_add_lit F N (listOf_isList (N _ ha).1) (listOf_isList (N _ hb).1) rfl h hz
local macro_rules | `(tactic| walk_at "binaryOp Add ref ref") => sq [ruI "add_own" "aamm_y" [0, 1] dk, tl "D' h' F' N' l1" "ls"]
theorem WF.head_op {row : List RE} (h : WF true row) {o : Op} (e : row[0]? = some (.op o)) : False := by cases h <;> simp at e
theorem WF.tail_minus {row : List RE} (h : WF true row) (e : row[0]? = some .minus) : WF true (row.drop 1) := by
  cases h with
  | num _ => simp at e
  | var _ => simp at e
  | mnum h => exact .num h
  | mvar h => exact .var h
theorem WF.split {row : List RE} (h : WF true row) : (∃ x, row = [x] ∧ x.isOperand = true) ∨ 2 ≤ row.length := by
  cases h with
  | num h => cases h with
    | nil => exact .inl ⟨_, rfl, rfl⟩
    | op _ _ => exact .inr (by simp)
  | var h => cases h with
    | nil => exact .inl ⟨_, rfl, rfl⟩
    | op _ _ => exact .inr (by simp)
  | mnum _ => exact .inr (by simp)
  | mvar _ => exact .inr (by simp)

theorem leaf_in {R : Led} {v : Value} {x : RE} (h : ReIn R v x) (hx : x.isOperand = true) : ∃ t, leafOf x = [t] ∧ TrIn R v t := by
  cases h with
  | num => exact ⟨_, rfl, .num⟩
  | var h => exact ⟨_, rfl, .var h⟩
  | op => cases hx
  | minus => cases hx
theorem TreesPost.one {R : Led} {c1 c2 c3 c4 l : Nat} {o1 o2 o3 o4 : Obj} {v : Value} {x : RE} {lv : Lv} {n : Nat} (hv : ReIn R v x) (hx : x.isOperand = true) (hR : ∀ p ∈ R, @LT.lt Nat _ p.1 c1) (h21 : c1 < c2) (h32 : c2 < c3) (h43 : c3 < c4) (h4 : c4 < l) :
    TreesPost R (trees lv (n + 1) [x]) (.ref l) ((l, listOf #[v] 0) :: (c4, o1) :: (c3, o2) :: (c2, o3) :: (c1, o4) :: R) := by
  obtain ⟨t, ht, hvt⟩ := leaf_in hv hx
  have hl : ∀ q ∈ R, @LT.lt Nat _ q.1 l := fun q hq => Nat.lt_trans (hR q hq) (Nat.lt_trans h21 (Nat.lt_trans h32 (Nat.lt_trans h43 h4)))
  refine ⟨l, #[v], 0, rfl, ⟨fun p hp => .tail _ (.tail _ (.tail _ (.tail _ (.tail _ hp)))), fun p hp => ?_⟩, .head _, hl, ?_⟩
  · simp only [List.mem_cons] at hp
    rcases hp with rfl | rfl | rfl | rfl | rfl | hp
    · exact .inr hl
    · exact .inr fun q hq => Nat.lt_trans (hR q hq) (Nat.lt_trans h21 (Nat.lt_trans h32 h43))
    · exact .inr fun q hq => Nat.lt_trans (hR q hq) (Nat.lt_trans h21 h32)
    · exact .inr fun q hq => Nat.lt_trans (hR q hq) h21
    · exact .inr hR
    · exact .inl hp
  · show All2 _ [v] (leafOf x)
    rw [ht]
    exact .cons (hvt.mono fun p hp => .tail _ (.tail _ (.tail _ (.tail _ (.tail _ hp))))) .nil
theorem szpos {a b : Nat} (h : a = b) (h2 : 2 ≤ b) : Int.toNat 0 < a := by simp; omega
theorem no1 {b : Nat} (h2 : 2 ≤ b) (e : (b : Int) = 1) : False := by omega
theorem subn {a n k : Nat} (h : a ≤ n + 1) : a - (k + 1) ≤ n := by omega
theorem minn {a n i : Nat} (h : a ≤ n + 1) (hi : i < a - 1) : min (i + 1) a ≤ n := by omega
theorem lt4 {a b : Nat} (h : a + 1 + 1 + 1 + 1 < b) : a < b := by omega
theorem rs_eq {n : Nat} : Builtin.Range.rangeSize 1 (n : Int) 1 = ((n - 1 : Nat) : Int) := by rw [rangeSize_nat]; exact congrArg _ (Int.toNat_sub n 1)
theorem sm_eq {n : Nat} (h2 : n ≤ 1000) : Builtin.Range.small 1 (n : Int) 1 = true := small_one (by decide) (by decide) (Int.le_trans (by decide) (Int.natCast_nonneg n)) (Int.lt_of_le_of_lt (Int.ofNat_le.mpr h2) (by decide))
theorem toNat1 {i : Nat} : Int.toNat (1 + (i : Int)) = i + 1 := by omega
theorem int1 {i : Nat} : (1 + (i : Int)) = ((i + 1 : Nat) : Int) := by omega
theorem int2 {i : Nat} : (1 + (i : Int)) + 1 = ((i + 2 : Nat) : Int) := by omega
theorem lt1 {a b i : Nat} (h : a = b) (hi : i < b - 1) : i + 1 < a := by omega
theorem one12 {i : Nat} : 1 + i + 1 = i + 2 := by omega
theorem le1000 {a k : Nat} (h : a ≤ 1000) : a - k ≤ 1000 := Nat.le_trans (Nat.sub_le _ _) h
theorem min1000 {a k : Nat} (h : a ≤ 1000) : min k a ≤ 1000 := Nat.le_trans (Nat.min_le_right _ _) h
theorem left_size {P : Tr → Bool} {Ts : List Tr} {R : Led} {ys : Array Value} {j : Nat} (h : All2 (TrIn R) ys.toList ((Ts.take j).filter P)) (hT : Ts.length ≤ 1) : ys.size ≤ 1 := by
  have h1 := h.length
  have h2 := List.length_filter_le P (Ts.take j)
  rw [List.length_take] at h2; rw [Array.length_toList] at h1; omega
theorem pair_size {P : Tr → Bool} {f : Tr → Tr} {Ts : List Tr} {R : Led} {ys : Array Value} {j : Nat} (h : All2 (TrIn R) ys.toList ((((Ts).filter P).take j).map f)) (hT : Ts.length ≤ 1) : ys.size ≤ 1 := by
  have h1 := h.length
  have h2 := List.length_filter_le P Ts
  rw [List.length_map, List.length_take, Array.length_toList] at h1; omega
theorem one_line {a : Nat} (h : a ≤ 1) : a ≤ 16777216 := Nat.le_trans h (by decide)
theorem deep1 {dp n : Nat} (h : dp + (n + 1 + 2) < 900) : dp + 3 < 900 := by omega
theorem deep2 {dp n : Nat} (h : dp + (n + 1 + 2) < 900) : dp + 1 + (n + 2) < 900 := by omega
theorem unit1 {un n : Nat} (h : un + 8 * (n + 1 + 2) < 9000) : un + 24 < 9000 := by omega
theorem unit2 {un n : Nat} (h : un + 8 * (n + 1 + 2) < 9000) : un + 3 + 8 * (n + 2) < 9000 := by omega
theorem row1000 {a n : Nat} (h : a ≤ n + 1) (h2 : n ≤ 20) : a ≤ 1000 := by omega
theorem found_size {w1 w2 : Tr → Bool} {lv : Lv} {n : Nat} {row : List RE} {x0 : RE} {R : Led} {fv : Array Value} {pre Rs : List Tr} {i j : Nat} {o : Op} (h : All2 (TrIn R) fv.toList ((pre ++ (List.range i).flatMap fun j => rootAt lv (trees lv n) row (j + 1)) ++ ((Rs.take j).filter w1).flatMap fun r => ((trees lv n (row.take (i + 1))).filter w2).map fun l => Tr.bin o l r)) (h2 : 2 ≤ row.length) (hx0 : row[0]? = some x0) (hpre : pre = if x0 = .minus then negs lv (trees lv n row.tail) else []) (hlen : (trees lv (n + 1) row).length ≤ 1) (hi : i < row.length - 1) (hT1 : (trees lv n (row.take (i + 1))).length ≤ 1) (hRs : Rs.length ≤ 1) : fv.size ≤ 1000 := by
  have h1 := h.length
  subst hpre
  rw [trees_eq h2 hx0, List.length_append] at hlen
  have h4 := flatMap_range_mono (fun j => rootAt lv (trees lv n) row (j + 1)) (i := i) (m := row.length - 1) (by omega)
  have h5 := flatMap_len1 (f := fun r => ((trees lv n (row.take (i + 1))).filter w2).map fun l => Tr.bin o l r) (fun x => by rw [List.length_map]; exact Nat.le_trans (List.length_filter_le _ _) hT1) ((Rs.take j).filter w1)
  have h6 := List.length_filter_le w1 (Rs.take j)
  have h7 : (Rs.take j).length ≤ 1 := by rw [List.length_take]; omega
  rw [Array.length_toList, List.length_append, List.length_append] at h1
  omega
theorem ite_len {c : Prop} [Decidable c] {Rs : List Tr} (h : Rs.length ≤ 1) : (if c then [] else Rs).length ≤ 1 := by split <;> simp_all
theorem fv_ys {a b : Nat} (h : a ≤ 1000) (h2 : b ≤ 1) : a + b ≤ 16777216 := by omega
theorem All2.one {P : Value → RE → Prop} {vs : Array Value} {x : RE} {C : Array Value → Prop} (h : All2 P vs.toList [x]) (k : ∀ v, P v x → C #[v]) : C vs := by
  obtain ⟨vl⟩ := vs
  cases h with
  | cons h t => cases t; exact k _ h
noncomputable def treeAlg : Alg Tr where
  leaf := fun | .num k => .num k | _ => .var
  mkc := fun o l r => some (.bin o l r)
  ng := fun t => some (.neg t)
theorem val_tree : ∀ t : Tr, val treeAlg t = some t
  | .num _ => rfl
  | .var => rfl
  | .neg t => by simp only [va1, va2, va3, va4, val_tree t, Option.bind_some]; rfl
  | .bin o l r => by simp only [va1, va2, va3, va4, val_tree l, val_tree r, Option.bind_some]; rfl
theorem tokens_inj {lv : Lv} (hm : lv .minus = ⟨.left, 6⟩) {t t' : Tr} (h : Valid lv t) (h' : Valid lv t') (e : tokens t = tokens t') : t = t' := by
  have a := parse_valid (G := treeAlg) hm h
  have b := parse_valid (G := treeAlg) hm h'
  rw [e, b, val_tree, val_tree] at a
  exact (Option.some.inj a).symm
theorem rootAt_mem {lv : Lv} {T : List RE → List Tr} {row : List RE} {k : Nat} {t : Tr} (h : t ∈ rootAt lv T row k) : ∃ o l r, row[k]? = some (.op o) ∧ t = .bin o l r ∧ l ∈ T (row.take k) ∧ r ∈ T (row.drop (k + 1)) ∧ beside lv o l false = true ∧ beside lv o r true = true ∧ signedOk lv o r = true := by
  cases hk : row[k]? with
  | none => unfold rootAt at h; rw [hk] at h; exact nomatch h
  | some x =>
    cases x with
    | op o =>
      rw [rootAt_op hk _ rfl] at h
      obtain ⟨r, hr, h⟩ := List.mem_flatMap.mp h
      obtain ⟨l, hl, rfl⟩ := List.mem_map.mp h
      obtain ⟨hl, hbl⟩ := List.mem_filter.mp hl
      obtain ⟨hr, hbr⟩ := List.mem_filter.mp hr
      simp only [Bool.and_eq_true] at hbr
      refine ⟨o, l, r, rfl, rfl, hl, ?_, hbl, hbr.1, hbr.2⟩
      split at hr
      · exact nomatch hr
      · exact hr
    | _ => unfold rootAt at h; rw [hk] at h; exact nomatch h
theorem row_split {row : List RE} {k : Nat} {x : RE} (h : row[k]? = some x) : row = row.take k ++ x :: row.drop (k + 1) := by
  obtain ⟨hlt, e⟩ := List.getElem?_eq_some_iff.mp h
  rw [← e, ← List.drop_eq_getElem_cons hlt, List.take_append_drop]
theorem trees_mem (lv : Lv) : ∀ n row, WF true row → ∀ t ∈ trees lv n row, Valid lv t ∧ tokens t = row := by
  intro n
  induction n with
  | zero => intro row _ t h; exact nomatch h
  | succ n ih =>
    intro row hwf t ht
    rcases hwf.split with ⟨x, rfl, hx⟩ | h2
    · cases x with
      | num k => obtain rfl : t = .num k := by simpa [tr1, tr2, leafOf] using ht
                 exact ⟨trivial, rfl⟩
      | var => obtain rfl : t = .var := by simpa [tr1, tr2, leafOf] using ht
               exact ⟨trivial, rfl⟩
      | op o => cases hx
      | minus => cases hx
    · obtain ⟨x0, hx0⟩ : ∃ x0, row[0]? = some x0 := ⟨row[0], List.getElem?_eq_getElem (by omega)⟩
      rw [trees_eq h2 hx0] at ht
      rcases List.mem_append.mp ht with ht1 | ht
      · split at ht1
        · rename_i e; subst e
          obtain ⟨t', ht', rfl⟩ := List.mem_map.mp ht1
          obtain ⟨ht', hb⟩ := List.mem_filter.mp ht'
          simp only [Bool.and_eq_true, Bool.not_eq_true'] at hb
          have e1 : row.tail = row.drop 1 := List.drop_one.symm
          rw [e1] at ht'
          obtain ⟨hv, htk⟩ := ih _ (hwf.tail_minus hx0) t' ht'
          refine ⟨⟨hv, hb.1, hb.2⟩, ?_⟩
          have := row_split hx0
          simp only [List.take_zero, List.nil_append] at this
          rw [this]; simp [to1, to2, to3, to4, htk]
        · exact nomatch ht1
      · obtain ⟨i, _, ht⟩ := List.mem_flatMap.mp ht
        obtain ⟨o, l, r, hk, rfl, hl, hr, hbl, hbr, hs⟩ := rootAt_mem ht
        obtain ⟨hvl, htl⟩ := ih _ (hwf.cut hk).1 l hl
        obtain ⟨hvr, htr⟩ := ih _ (hwf.cut hk).2 r hr
        refine ⟨⟨hwf.op_ne hk, hvl, hvr, hbl, hbr, hs⟩, ?_⟩
        show tokens l ++ .op o :: tokens r = row
        rw [htl, htr]; exact (row_split hk).symm
theorem size_tokens : ∀ t : Tr, t.size ≤ (tokens t).length
  | .num _ => Nat.zero_le _
  | .var => Nat.zero_le _
  | .neg t => by have := size_tokens t; simp only [sz1, sz2, sz3, sz4, to1, to2, to3, to4, List.length_cons]; omega
  | .bin o l r => by have := size_tokens l; have := size_tokens r; simp only [sz1, sz2, sz3, sz4, to1, to2, to3, to4, List.length_cons, List.length_append]; omega
theorem trees_size (lv : Lv) : ∀ n row, WF true row → ∀ t ∈ trees lv n row, t.size ≤ row.length := by
  intro n row hwf t ht
  have := size_tokens t
  rw [(trees_mem lv n row hwf t ht).2] at this; exact this
theorem flat_one {α : Type} {f : Nat → List α} (h1 : ∀ i, (f i).length ≤ 1) (h2 : ∀ i j, f i ≠ [] → f j ≠ [] → i = j) : ∀ m, ((List.range m).flatMap f).length ≤ 1 := by
  intro m
  induction m with
  | zero => simp
  | succ m ih =>
    rw [flatMap_snoc, List.length_append]
    by_cases e : f m = []
    · rw [e]; simpa using ih
    · have : (List.range m).flatMap f = [] := by
        rw [List.flatMap_eq_nil_iff]
        intro i hi
        by_cases e2 : f i = []
        · exact e2
        · have := h2 i m e2 e; have := List.mem_range.mp hi; omega
      rw [this]; simpa using h1 m
theorem trees_one {lv : Lv} (hm : lv .minus = ⟨.left, 6⟩) : ∀ n row, WF true row → (trees lv n row).length ≤ 1 := by
  intro n
  induction n with
  | zero => intro row _; simp [tr1, tr2]
  | succ n ih =>
    intro row hwf
    rcases hwf.split with ⟨x, rfl, hx⟩ | h2
    · cases x <;> simp [tr1, tr2, leafOf]
    · obtain ⟨x0, hx0⟩ : ∃ x0, row[0]? = some x0 := ⟨row[0], List.getElem?_eq_getElem (by omega)⟩
      have all : ∀ t t', t ∈ trees lv (n + 1) row → t' ∈ trees lv (n + 1) row → t = t' := fun t t' h h' => by
        obtain ⟨a, b⟩ := trees_mem lv _ row hwf t h
        obtain ⟨a', b'⟩ := trees_mem lv _ row hwf t' h'
        exact tokens_inj hm a a' (b.trans b'.symm)
      rw [trees_eq h2 hx0] at all ⊢
      rw [List.length_append]
      have hroot : ((List.range (row.length - 1)).flatMap fun j => rootAt lv (trees lv n) row (j + 1)).length ≤ 1 := by
        refine flat_one ?_ ?_ _
        · intro i
          cases hk : row[i + 1]? with
          | none => unfold rootAt; rw [hk]; simp
          | some x =>
            cases x with
            | op o =>
              rw [rootAt_op hk _ rfl]
              have hL := Nat.le_trans (List.length_filter_le (fun t => beside lv o t false) (trees lv n (row.take (i + 1)))) (ih _ (hwf.cut hk).1)
              refine Nat.le_trans (flatMap_len1 (fun r => by rw [List.length_map]; exact hL) _) (Nat.le_trans (List.length_filter_le _ _) ?_)
              split
              · simp
              · exact ih _ (hwf.cut hk).2
            | _ => unfold rootAt; rw [hk]; simp
        · intro i j hi hj
          obtain ⟨t, ht⟩ := List.exists_mem_of_ne_nil _ hi
          obtain ⟨t', ht'⟩ := List.exists_mem_of_ne_nil _ hj
          obtain ⟨o, l, r, hk, rfl, hl, hr, -⟩ := rootAt_mem ht
          obtain ⟨o', l', r', hk', rfl, hl', hr', -⟩ := rootAt_mem ht'
          have ei := (List.getElem?_eq_some_iff.mp hk).1
          have ej := (List.getElem?_eq_some_iff.mp hk').1
          have e := all _ _ (List.mem_append.mpr (.inr (List.mem_flatMap.mpr ⟨i, List.mem_range.mpr (by omega), ht⟩))) (List.mem_append.mpr (.inr (List.mem_flatMap.mpr ⟨j, List.mem_range.mpr (by omega), ht'⟩)))
          cases e
          have e1 := (trees_mem lv n _ (hwf.cut hk).1 l hl).2
          have e2 := (trees_mem lv n _ (hwf.cut hk').1 l hl').2
          have := congrArg List.length (e1.symm.trans e2)
          rw [List.length_take, List.length_take] at this
          omega
      by_cases e : ((List.range (row.length - 1)).flatMap fun j => rootAt lv (trees lv n) row (j + 1)) = []
      · rw [e]
        split
        · rename_i e0; subst e0
          have e1 : row.tail = row.drop 1 := List.drop_one.symm
          have := ih _ (hwf.tail_minus hx0)
          unfold negs
          rw [List.length_map, e1]
          have := List.length_filter_le (fun t => !isNeg t && beside lv .minus t true) (trees lv n (row.drop 1))
          simp only [List.length_nil, Nat.add_zero]; omega
        · simp
      · obtain ⟨t, ht⟩ := List.exists_mem_of_ne_nil _ e
        have : (if x0 = .minus then negs lv (trees lv n row.tail) else []) = [] := by
          by_cases e3 : (if x0 = .minus then negs lv (trees lv n row.tail) else []) = []
          · exact e3
          · obtain ⟨t', ht'⟩ := List.exists_mem_of_ne_nil _ e3
            have e4 := all t t' (List.mem_append.mpr (.inr ht)) (List.mem_append.mpr (.inl ht'))
            subst e4
            obtain ⟨i, _, h5⟩ := List.mem_flatMap.mp ht
            obtain ⟨o, l, r, -, rfl, -⟩ := rootAt_mem h5
            split at ht'
            · obtain ⟨t6, _, h6⟩ := List.mem_map.mp ht'; cases h6
            · exact nomatch ht'
        rw [this]; simpa using hroot
set_option maxRecDepth 100000 in
set_option maxHeartbeats 8000000 in
theorem trees_step (w : World) (lv : Lv) (n : Nat) (IH : TreesIH w lv n) (hlen : ∀ k row, WF true row → (trees lv k row).length ≤ 1) (hsz : ∀ k row, WF true row → ∀ t ∈ trees lv k row, t.size ≤ row.length) (hn9 : n ≤ 20) : TreesIH w lv (n + 1) := by
  intro row R d od kvs rl vs k0 hrl hwf hd hD hL hrow hall
  unfold Calls
  intro p loose mean mg mb dp un gd cn cs a ccd cl outer A₀ base h₀ L m s Q E B F X N T hk hdp hun hret
  revert X; k_fill; intro X
  refine wpAny_call ?_
  k_dflt (refine' code_defC ?k1 ?k2 ?k3 ?k4 ?k5 ?kA ?kF ?kK ?k6 ?k7 ?k8 ?k9 ?kB ?kD ?_ ?c2 ?c3 ?c4; (case kA => exact rfl); (case kF => exact rfl); (case kK => assumption); (case k1 => k_asm); (case k2 => k_asm); (case k3 => k_asm); (case k4 => k_asm); (case k5 => k_asm); (case k6 => k_is); (case k7 => k_is); (case k8 => ktr_room); (case k9 => exact BindsTo.of_eq rfl); (case kB => exact rfl); (case kD => decide +kernel); (case c2 => exact rfl); (case c3 => exact rfl); (case c4 => exact rfl); k_whole; intro g' L' h' tk' cells' FG' F' N' Y' B' X' T' l1; (try k_lt l1); k_cells Y'; (try simp only [List.cons_append, List.nil_append] at N'); (try dsimp only); (try k_fold))
  refine letA ?_
  intro Ak
  have hsize : vs.size = row.length := hall.length
  have hr1000 : row.length ≤ 1000 := row1000 hrl hn9
  have hd3 := deep1 hdp
  have hd4 := deep2 hdp
  have hu3 := unit1 hun
  have hu4 := unit2 hun
  rcases hwf.split with ⟨x, rfl, hxo⟩ | h2
  · clear hsize
    revert hrow
    apply All2.one hall
    intro v hv hrow
    have hv0 : #[v][Int.toNat 0]? = some v := rfl
    k_steps
    exact hret _ _ _ _ (by assumption) (by assumption) (TreesPost.one hv hxo (fun p hp => Nat.lt_succ_of_lt (l1 p hp)) (Nat.lt_succ_self _) (Nat.lt_succ_self _) (Nat.lt_succ_self _) (ltL (by assumption)))
  · refine ex1_1 (show ∃ v0, vs[Int.toNat 0]? = some v0 from ⟨_, Array.getElem?_eq_getElem (szpos hsize h2)⟩) fun v0 hv0 => ?_
    refine ex1_2 (All2.get hall (by simpa using hv0)) fun x0 hx0 hr0 => ?_
    have ms : MarkStop := trivial
    k_steps
    · exact (no1 h2 (by assumption)).elim
    unfold Stop
    rename News _ _ _ _ => N1
    rename Fr _ _ _ _ => F1
    rename_i o1 o2 o3 o4 d1 d2 d3 d4 _ tk1 lF _ lF1 _
    have d1 : o1.data = .cell none := d1
    have d2 : o2.data = .cell none := d2
    have d3 : o3.data = .cell (some (.ref rl)) := d3
    have d4 : o4.data = .cell (some (.ref d)) := d4
    refine wpAny_mono (Q := fun f s' => f = .next ∧ TMid g' L' [(L' + 1 + 1 + 1, o2), (L' + 1 + 1 + 1 + 1, o1)] ((L' + 1 + 1, o3) :: (L' + 1, o4) :: R) s (if x0 = .minus then negs lv (trees lv n row.tail) else []) s') ?_ ?_ fun _ _ e => e
    · revert hv0 hx0
      apply ReIn.use hr0
      all_goals clear hr0
      case k3 => exact fun o9 t9 _ hx0 => absurd hx0 (fun e => hwf.head_op e)
      all_goals intros
      all_goals rename (row[0]? = _) => hx0
      all_goals k_steps
      all_goals first
        | (simp only [reduceCtorEq, if_false]; exact TMid.start (by assumption) (by with_unfolding_all rfl) N1 (by k_ne) (by k_ne) (by k_ne) (by k_ne) (fun p hp => Nat.lt_succ_of_lt (l1 p hp)))
        | skip
      unfold Stop
      rename Fr _ _ _ _ => F2
      with_unfolding_all refine' For_invVF F2 ?hx ?hp ?_; (case hx => rfl); (case hp => rfl)
      k_steps
      unfold Stop
      rename News _ _ _ _ => N2
      rename_i D _ hDl
      k_dflt (refine' Calls.use (IH.use (row := row.drop 1) hD ?hL ?hd ?hrow ?hall ?hl ?hw) ?k1 ?k2 ?kX N2 ?k5 ?k6 ?k7 ?k8 ?_)
      (case k1 => k_asm); (case k2 => k_asm); (case kX => assumption); (case k5 => k_asm); (case k6 => first | exact rfl | k_asm)
      (case hL => exact LvIn.up hL (by intro p hp; k_mem))
      (case hd => k_mem)
      (case hrow => k_mem)
      (case hall => exact (hall.drop 1).mono fun _ _ x => x.mono (by intro p hp; k_mem))
      (case hl => (rw [List.length_drop]; exact subn hrl))
      (case hw => exact hwf.tail_minus (by simpa using hx0))
      (case k7 => ktr_room)
      (case k8 => ktr_units)
      intro r9 l9 h9 tk9 F9 N9 P9
      apply TreesPost.use P9
      intro lt ts tn hG hlt hltlt hts
      dsimp only
      refine ex1_4 (Grows.pullM (M := [(lF, listOf #[] 0)]) hG.swap (by
        intro p hp q hq
        rw [List.mem_singleton.mp hq]
        revert p
        exact List.forall_mem_cons.mpr ⟨by k_ne, List.forall_mem_cons.mpr ⟨by k_ne, List.forall_mem_cons.mpr ⟨by k_ne, List.forall_mem_cons.mpr ⟨by k_ne, List.forall_mem_cons.mpr ⟨by k_ne, fun p hp => Nat.ne_of_lt (Nat.lt_trans (l1 p hp) (lt4 (ltL (by assumption))))⟩⟩⟩⟩⟩)) fun Rk gk hnek hsubk hallk => ?_
      have N3 := News.sub N9 hsubk
      have hltk : (lt, listOf ts tn) ∈ Rk := (hallk _ hlt).elim (fun h => absurd (hltlt _ (.tail _ (.head _))) (by rw [show lt = lF from congrArg Prod.fst (List.mem_singleton.mp h)]; exact Nat.lt_irrefl _)) id
      have htsk : All2 (TrIn Rk) ts.toList (trees lv n (row.drop 1)) := hts.mono fun _ _ x => x.monoT fun p hp hc => (hallk p hp).elim (fun h => absurd (Value.type.inj (show Value.type "list" = Value.type "tuple" from (congrArg (fun (q : Addr × Obj) => q.2.cls) (List.mem_singleton.mp h)).symm.trans hc.1)) (by decide)) id
      have hT1 : (trees lv n (row.drop 1)).length ≤ 1 := hlen n _ (hwf.tail_minus (by simpa using hx0))
      refine iter_list (fun _ _ => NegJ _ lF lt tn ts (trees lv n (row.drop 1)) lv) (by rfl) F9 N3 (by exact .tail _ hltk) (NegJ.of _ #[] 0 Rk (loc_found (by with_unfolding_all rfl)) rfl gk (fun p hp => hnek p hp _ (.head _)) hltk htsk .nil (Nat.zero_le _)) ?_ ?_ ?_
      · rintro i m nw ⟨u, fv, fn, Rk, -, -, h, -⟩; exact .tail _ h
      · intro I i v m₁ news₁ h tk oI hi hJ
        apply NegJ.use hJ
        intro u fv fn Rk' hG' hne' hlt' hts' hfv' hsz' hnI F4 N4
        refine ex1_2 (All2.get hts' (by simpa using hi)) fun t ht hv => ?_
        (try clear F1); (try clear N1); (try clear F2); (try clear N2); (try clear F9); (try clear N9); (try clear N3)
        have hLk : LvIn Rk' kvs lv := LvIn.up hL (fun p hp => hG'.1 p (by k_mem))
        have hilt : i < ts.size := (Array.getElem?_eq_some_iff.mp hi).1
        have hsz9 : ts.size ≤ 1 := by rw [← Array.length_toList, hts'.length]; exact hT1
        have hzt : t.size ≤ 1000 := Nat.le_trans (hsz n _ (hwf.tail_minus (by simpa using hx0)) t (List.mem_of_getElem? ht)) (by rw [List.length_drop]; exact le1000 hr1000)
        have nI : @Ne Nat lF I := hnI _ (.head _)
        have hGs := hG'.1
        have hv9 := hv
        revert hv9 ht hzt hi F4
        apply TrIn.use hv
        all_goals clear hv
        all_goals intros
        all_goals rename (TrIn Rk' _ _) => hv9
        all_goals rename (Tr.size _ ≤ 1000) => hzt
        all_goals rename ((trees lv n (row.drop 1))[i]? = some _) => ht
        all_goals (try k_fold)
        all_goals k_steps
        all_goals first
          | exact NegJ.skip (by assumption) (by assumption) (by with_unfolding_all rfl) (by intro p hp; exact hp) hG' hne' hnI hlt' hts' hfv' hsz' ht (by first | (simp only [isNeg, Bool.not_true, Bool.false_and]; done) | (simp only [isNeg, Bool.not_false, Bool.true_and]; assumption))
          | (refine NegJ.push (by assumption) (by assumption) (by with_unfolding_all rfl) (by intro p hp; exact hp) hG' hne' hnI hlt' hts' hfv' hsz' hv9 (by k_ne) (by k_ne) (allLt_mem (by tbn_find)) ht (by simp only [isNeg, Bool.not_false, Bool.true_and]; assumption))
      · intro m₁ news₁ h tk hJ
        apply NegJ.use hJ
        intro u fv fn Rk' hG' hne' hlt' hts' hfv' hsz' F4 N4
        (try clear F1); (try clear N1); (try clear F2); (try clear N2); (try clear F9); (try clear N9); (try clear N3)
        k_steps
        simp only [if_true]
        have e1 : row.tail = row.drop 1 := List.drop_one.symm
        rw [e1]
        have hsd := NegJ.sides (oD := listOf (List.drop 1 vs.toList).toArray 0) (o1 := o1) (o2 := o2) (o3 := o3) (o4 := o4) (R := R) (c1 := L' + 1) (c2 := L' + 1 + 1) (c3 := L' + 1 + 1 + 1) (c4 := L' + 1 + 1 + 1 + 1) (lF := lF) (Nat.lt_succ_self _) (Nat.lt_succ_self _) (Nat.lt_succ_self _) (ltL (by assumption)) hDl.1 (fun p hp => Nat.lt_succ_of_lt (l1 p hp))
        exact NegJ.fin F4 N4 hG' hsd.1 hsd.2.1 hsd.2.2.1 hsd.2.2.2 (by intro q hq; simp only [List.mem_cons, List.not_mem_nil, or_false] at hq; rcases hq with rfl | rfl; exact ⟨_, d2⟩; exact ⟨_, d1⟩) hfv' (by rw [← hts'.length, Array.length_toList]; exact Nat.le_refl _)
    · rintro f s' ⟨rfl, hmid⟩
      apply TMid.use hmid
      intro h5 tk5 l5 fv fn R1 u F5 N5 g5 ne5 hl5 hl5R hfv5
      dsimp only
      (try clear F1); (try clear N1)
      have N6 : News g' L' h5 ((L' + 1 + 1 + 1, o2) :: (L' + 1 + 1 + 1 + 1, o1) :: R1) := N5
      clear N5
      have hrc : (L' + 1 + 1, o3) ∈ R1 := g5.1 _ (.head _)
      have hlc : (L' + 1, o4) ∈ R1 := g5.1 _ (.tail _ (.head _))
      have hRR : ∀ p ∈ R, p ∈ R1 := fun p hp => g5.1 p (.tail _ (.tail _ hp))
      k_steps
      unfold Stop
      refine wpAny_For ?_
      k_steps
      rename News _ _ _ _ => N7
      rename Fr _ _ _ _ => F7
      rename IsRange _ _ _ _ _ _ _ _ => hR7
      have hrs := rs_eq (n := row.length)
      have hsm := sm_eq hr1000
      refine iter_range_cell (c := L' + 1 + 1 + 1) (fun _ => MainJ ((L' + 1 + 1, o3) :: (L' + 1, o4) :: R) (L' + 1 + 1 + 1 + 1) lv n row (if x0 = .minus then negs lv (trees lv n row.tail) else [])) (by rfl) (by rfl) (by rfl) (by rfl) (by passes_own) hR7 hsm hrs F7 N7 d2 ?_ ?_ ?_ ?_
      · refine List.forall_mem_cons.mpr ⟨by k_ne, fun p hp => ne5 p hp _ (.head _)⟩
      · exact ⟨u, l5, fv, fn, o1, _, R1, d1, g5, fun p hp => ne5 p hp _ (.tail _ (.head _)), hl5, hl5R, by simpa using hfv5⟩
      · intro I i t m₁ news₁ h tk oI oc hi hJ
        apply MainJ.use hJ
        intro u2 lf fv2 fn2 orr v0r Rk hor hG hne hlf hlfR hfv hnI hcI F8 N8 hoc hIc9
        (try clear N7); (try clear F7); (try clear F5); (try clear hR7); (try clear N6)
        have nI4 : @Ne Nat (L' + 1 + 1 + 1 + 1) I := (hnI _ (.head _)).1
        have hRk : ∀ p ∈ R, p ∈ Rk := fun p hp => hG.1 p (.tail _ (.tail _ hp))
        have hrk : (L' + 1 + 1, o3) ∈ Rk := hG.1 _ (.head _)
        have hlk : (L' + 1, o4) ∈ Rk := hG.1 _ (.tail _ (.head _))
        have hRkI : ∀ p ∈ Rk, p.1 ≠ I := fun p hp => (hnI p (.tail _ hp)).1
        have hRk3 : ∀ p ∈ Rk, p.1 ≠ L' + 1 + 1 + 1 := fun p hp => (hnI p (.tail _ hp)).2
        refine ex1_1 (show ∃ va, vs[Int.toNat (1 + (i : Int))]? = some va from ⟨_, by rw [toNat1]; exact Array.getElem?_eq_getElem (lt1 hsize hi)⟩) fun va hva => ?_
        refine ex1_2 (All2.get (i := i + 1) hall (by rw [toNat1] at hva; simpa using hva)) fun x hx hrx => ?_
        (try k_fold)
        revert hva hx
        apply ReIn.use hrx
        all_goals clear hrx
        case k3 =>
          intro o t9 hva hx
          have i63 := i63 hi hr1000
          have i64 : (0 : Int) ≤ (1 : Int) + (i : Int) := i64
          have hom : o ≠ .minus := hwf.op_ne hx
          have hk9 : (1 + (i : Int)) = ((i + 1 : Nat) : Int) := int1
          have hk10 : (1 + (i : Int)) + 1 = ((i + 2 : Nat) : Int) := int2
          have hnb : (Op.str o != Str.ofString "-") = true := by simp only [bne, op_minus]; simp [hom]
          k_steps
          unfold Stop
          refine comp_assign (h₀ := g') (by with_unfolding_all rfl) (by rfl) (by decide) (by rfl) (by decide) (by rfl) (by rfl) (by rfl) (by rfl) ?_
          k_steps
          unfold Stop
          rename News _ _ _ _ => N9
          rename_i D _ hDl
          k_dflt (refine' Calls.use (IH.use (row := row.take (i + 1)) hD ?hL ?hd ?hrow ?hall ?hl ?hw) ?k1 ?k2 ?kX N9 ?k5 ?k6 ?k7 ?k8 ?_)
          (case k1 => k_asm); (case k2 => k_asm); (case kX => assumption); (case k5 => k_asm); (case k6 => first | exact rfl | k_asm)
          (case hL => exact LvIn.up hL (by intro p hp; k_mem))
          (case hd => k_mem)
          (case hrow => k_mem)
          (case hall => (rw [Nat.add_comm 1 i]; exact (hall.take (i + 1)).mono fun _ _ x => x.mono (by intro p hp; k_mem)))
          (case hl => (rw [List.length_take]; exact minn hrl hi))
          (case hw => exact (hwf.cut hx).1)
          (case k7 => ktr_room)
          (case k8 => ktr_units)
          intro r9 l9 h9 tk9 F9 N10 P9
          apply TreesPost.use P9
          intro lt ts tn hG9 hlt hltlt hts
          dsimp only
          refine ex1_7 (MainJ.pull hG9 N10 hlt hltlt hts hoc hor hIc9 (allLt_mem hDl) (fun p hp => ⟨hRk3 p hp, hRkI p hp, hne p hp⟩)) fun Rk2 gk2 hne2 N11 hlt2 hts2 hltA hkey2 => ?_
          have hT1 : (trees lv n (row.take (i + 1))).length ≤ 1 := hlen n _ (hwf.cut hx).1
          have hRk2 : ∀ p ∈ Rk, p ∈ Rk2 := gk2.1
          refine ⟨lt, ts, tn, _, _, LeftJ ((L' + 1 + 1 + 1, oc) :: (I, oI) :: (L' + 1 + 1 + 1 + 1, orr) :: Rk2) (fun t => beside lv o t false) (trees lv n (row.take (i + 1))), rfl, F9, N11, by k_mem, ⟨rfl, .nil⟩, ?_, ?_, ?_, ?_⟩
          · rintro _ _ _ ⟨rfl, _⟩; k_mem
          · rintro j ys _ ⟨_, h⟩
            rw [sizeLine_eq]
            exact one_line (left_size h hT1)
          · intro C D2 I2 oC oI2 k j v ys nw h10 tk10 mC E' hv hJ hneC hCD hCI hDI F11 N12 hNs hmx
            obtain ⟨rfl, hys⟩ := hJ
            refine ex1_2 (All2.get hts2 (by simpa using hv)) fun t2 ht2 hvt => ?_
            have hz2 : t2.size ≤ 1000 := Nat.le_trans (hsz n _ (hwf.cut hx).1 t2 (List.mem_of_getElem? ht2)) (by rw [List.length_take]; exact min1000 hr1000)
            (try clear N8); (try clear N9); (try clear N10); (try clear F8); (try clear F9)
            refine wpAny_tests_one ?_
            (try k_fold)
            k_steps
            · exact ⟨_, _, _, rfl, by assumption, by assumption, hneC, rfl, LeftJ.push hys ht2 hvt (by assumption) (by intro p hp; k_mem)⟩
            · exact ⟨_, _, _, rfl, by assumption, by assumption, hneC, rfl, LeftJ.skip hys ht2 (by assumption)⟩
          · intro D2 ys k nw h10 tk10 hJ F11 N12 hneD hltD
            obtain ⟨rfl, hys⟩ := hJ
            (try clear N8); (try clear N9); (try clear N10); (try clear F8); (try clear F9)
            have ms2 : MarkStop := trivial
            k_steps
            unfold Stop
            have hT2 : (trees lv n (row.drop (i + 2))).length ≤ 1 := hlen n _ (hwf.cut hx).2
            refine wpAny_mono (Q := fun f s' => f = .next ∧ RMid g' L' [(L' + 1 + 1 + 1, oc), (I, oI), (L' + 1 + 1 + 1 + 1, orr)] ((D2, listOf ys k) :: Rk2) lf D2 s (if ys.size = 0 then [] else trees lv n (row.drop (i + 2))) s') ?_ ?_ fun _ _ e => e
            · have hD2 : ∀ q ∈ (L' + 1 + 1 + 1, oc) :: (I, oI) :: (L' + 1 + 1 + 1 + 1, orr) :: Rk2, @LT.lt Nat _ q.1 D2 := hltD
              have hD2c : @LT.lt Nat _ (L' + 1 + 1 + 1) D2 := hD2 _ (.head _)
              have hD2I : @LT.lt Nat _ I D2 := hD2 _ (.tail _ (.head _))
              have hD24 : @LT.lt Nat _ (L' + 1 + 1 + 1 + 1) D2 := hD2 _ (.tail _ (.tail _ (.head _)))
              k_steps
              rotate_left
              · exact True.intro
              · rename News _ _ _ _ => N14
                rename Fr _ _ _ _ => F14
                have hy0 : ys.size = 0 := Decidable.of_not_not (by assumption)
                rw [if_pos hy0]
                refine RMid.mk' F14 (by with_unfolding_all rfl) (by with_unfolding_all rfl) (by with_unfolding_all rfl) N14 ?_ (.head _) ?_ .nil hoc hor hIc9 hD2 hne2
                · refine Grows.trans (Grows.cons ?_) (Grows.cons ?_) <;> exact allLt_mem (by assumption)
                · intro q hq; simp only [List.mem_cons, List.not_mem_nil, or_false] at hq; rcases hq with rfl | rfl | rfl <;> k_ne
              unfold Stop
              rename News _ _ _ _ => N15
              rename_i l4 _ hl4 hys0 D4 _ hDl4
              k_dflt (refine' Calls.use (IH.use (row := row.drop (i + 2)) hD ?hL ?hd ?hrow ?hall ?hl ?hw) ?k1 ?k2 ?kX N15 ?k5 ?k6 ?k7 ?k8 ?_)
              (case k1 => k_asm); (case k2 => k_asm); (case kX => assumption); (case k5 => k_asm); (case k6 => first | exact rfl | k_asm)
              (case hL => exact LvIn.up hL (by intro p hp; k_mem))
              (case hd => k_mem)
              (case hrow => k_mem)
              (case hall => (rw [one12]; exact (hall.drop (i + 2)).mono fun _ _ x => x.mono (by intro p hp; k_mem)))
              (case hl => (rw [List.length_drop]; exact subn hrl))
              (case hw => exact (hwf.cut hx).2)
              (case k7 => ktr_room)
              (case k8 => ktr_units)
              intro r16 l16 h16 tk16 F16 N16 P16
              apply TreesPost.use P16
              intro lr rs rn hG16 hlr hltlr hrs
              (try clear N15)
              dsimp only
              k_steps
              · exact True.intro
              · rw [if_neg (by assumption)]
                refine RMid.mk' (by assumption) (by with_unfolding_all rfl) (by with_unfolding_all rfl) (by with_unfolding_all rfl) (by assumption) (Grows.trans ?_ hG16) hlr (fun q hq => hltlr q (.tail _ (.tail _ (.tail _ (List.mem_append.mpr (.inl hq) : q ∈ [(L' + 1 + 1 + 1, oc), (I, oI), (L' + 1 + 1 + 1 + 1, orr)] ++ Rk2))))) hrs hoc hor hIc9 hD2 hne2
                refine Grows.trans (Grows.cons ?_) (Grows.cons ?_) <;> exact allLt_mem (by assumption)
            · rintro f s' ⟨rfl, hmid2⟩
              apply RMid.use hmid2
              intro h12 tk12 lr rs rn Rk3 u3 F12 N13 g13 ne13 hlr hrs
              dsimp only
              (try clear F11); (try clear N12); (try clear N11)
              have hls3 : (D2, listOf ys k) ∈ Rk3 := g13.1 _ (.head _)
              have hRk23 : ∀ p ∈ Rk2, p ∈ Rk3 := fun p hp => g13.1 p (.tail _ hp)
              have N13' : News g' L' h12 ((L' + 1 + 1 + 1 + 1, orr) :: (L' + 1 + 1 + 1, oc) :: (I, oI) :: Rk3) := News.sub N13 (fun p hp => by
                simp only [List.cons_append, List.nil_append, List.mem_cons] at hp ⊢; rcases hp with h | h | h | h <;> simp [h])
              clear N13
              k_steps
              unfold Stop
              refine wpAny_For ?_
              k_steps
              refine iter_list_cell (c := L' + 1 + 1 + 1 + 1) (fun _ => InnerJ (L' + 1 + 1 + 1) I oc oI Rk3 D2 ((L' + 1 + 1, o3) :: (L' + 1, o4) :: R) ((if x0 = .minus then negs lv (trees lv n row.tail) else []) ++ (List.range i).flatMap fun j => rootAt lv (trees lv n) row (j + 1)) ((trees lv n (row.take (i + 1))).filter fun t => beside lv o t false) (if ys.size = 0 then [] else trees lv n (row.drop (i + 2))) lv o) (by rfl) (by rfl) (by rfl) (by rfl) (by passes_own) F12 N13' hor (List.forall_mem_cons.mpr ⟨by k_ne, List.forall_mem_cons.mpr ⟨Ne.symm nI4, fun p hp => ne13 p hp _ (.tail _ (.tail _ (.head _)))⟩⟩) (.tail _ (.tail _ hlr)) ?_ ?_ ?_ ?_
              · exact ⟨_, lf, fv2, fn2, Rk3, Grows.refl _, fun p hp => ⟨ne13 p hp _ (.head _), ne13 p hp _ (.tail _ (.head _))⟩, hRk23 _ (hRk2 _ hlf), hlfR, by simpa using hfv.mono fun _ _ x => x.mono fun p hp => hRk23 _ (hRk2 _ hp)⟩
              · rintro j m nw ⟨u, lf, fv, fn, Rk4, hg, -⟩; exact .tail _ (.tail _ (hg.1 _ hlr))
              · intro I2 j v m₁ news₁ h17 tk17 oI2 oc4 hjv hJ2
                apply InnerJ.use hJ2
                intro u5 lf5 fv5 fn5 Rk4 hg5 hne5 hlf5 hlf5R hfv5' hnI2 h4I2 F18 N18 hoc4 hI2c
                (try clear N13'); (try clear F12)
                refine ex1_2 (All2.get hrs (by simpa using hjv)) fun r hr hvr => ?_
                have h34 : ∀ p ∈ Rk3, p ∈ Rk4 := hg5.1
                have n21 : @Ne Nat (L' + 1 + 1 + 1) I2 := (hnI2 _ (.head _)).1
                have n22 : @Ne Nat I I2 := (hnI2 _ (.tail _ (.head _))).1
                have hk4I : ∀ p ∈ Rk4, p.1 ≠ I2 := fun p hp => (hnI2 p (.tail _ (.tail _ hp))).1
                have hk44 : ∀ p ∈ Rk4, p.1 ≠ L' + 1 + 1 + 1 + 1 := fun p hp => (hnI2 p (.tail _ (.tail _ hp))).2
                have hk43 : ∀ p ∈ Rk4, p.1 ≠ L' + 1 + 1 + 1 := fun p hp => (hne5 p hp).1
                have hk4i : ∀ p ∈ Rk4, p.1 ≠ I := fun p hp => (hne5 p hp).2
                have hvr4 := hvr.mono h34
                have hzr : r.size ≤ 1000 := by
                  have h9 := List.mem_of_getElem? hr
                  split at h9
                  · exact nomatch h9
                  · exact Nat.le_trans (hsz n _ (hwf.cut hx).2 r h9) (by rw [List.length_drop]; exact le1000 hr1000)
                (try k_fold)
                k_steps
                rotate_left
                · exact InnerJ.skip (by assumption) (by assumption) hoc4 hnI2 hg5 hne5 hlf5 hlf5R hfv5' hr (.inr (by assumption))
                · exact InnerJ.skip (by assumption) (by assumption) hoc4 hnI2 hg5 hne5 hlf5 hlf5R hfv5' hr (.inl (by assumption))
                unfold Stop
                have hls4 : (D2, listOf ys k) ∈ Rk4 := h34 _ hls3
                have hsb : signedOk lv o r = true := by assumption
                have hbb : beside lv o r true = true := by assumption
                rename News _ _ _ _ => N19
                rename Fr _ _ _ _ => F19
                refine comp_eval (h₀ := g') (L := L') (by rfl) (by decide) (by rfl) (by decide) (by rfl) (by rfl) ?_
                walk1
                have hTl : (trees lv n (row.take (i + 1))).length ≤ 1 := hT1
                have hlefts : All2 (TrIn Rk4) ys.toList ((trees lv n (row.take (i + 1))).filter fun t => beside lv o t false) := by
                  rw [List.take_of_length_le (by rw [← hts2.length, Array.length_toList]; exact Nat.le_refl _)] at hys
                  exact hys.mono fun _ _ x => x.monoT fun p hp hc => by
                    rcases List.mem_cons.mp hp with rfl | hp
                    · obtain ⟨_, its, k9, hk9⟩ := hc
                      rw [show ((L' + 1 + 1 + 1, oc) : Addr × Obj).2.data = _ from hoc] at hk9; cases hk9
                    rcases List.mem_cons.mp hp with rfl | hp
                    · exact absurd hc.1 hIc9
                    rcases List.mem_cons.mp hp with rfl | hp
                    · obtain ⟨_, its, k9, hk9⟩ := hc
                      rw [show ((L' + 1 + 1 + 1 + 1, orr) : Addr × Obj).2.data = _ from hor] at hk9; cases hk9
                    · exact h34 _ (hRk23 _ hp)
                refine ⟨D2, ys, k, _, _, PairJ [(L' + 1 + 1 + 1 + 1, oc4), (I2, oI2), (L' + 1 + 1 + 1, oc), (I, oI)] Rk4 ((trees lv n (row.take (i + 1))).filter fun t => beside lv o t false) o r, rfl, F19, N19, by k_mem, ⟨Rk4, Grows.refl _, ?_, .nil⟩, ?_, ?_, ?_, ?_⟩
                · intro p hp q hq
                  simp only [List.mem_cons, List.not_mem_nil, or_false] at hq
                  rcases hq with rfl | rfl | rfl | rfl
                  · exact hk44 p hp
                  · exact hk4I p hp
                  · exact hk43 p hp
                  · exact hk4i p hp
                · rintro _ _ _ ⟨Rk5, g5', _⟩
                  exact List.mem_append.mpr (.inr (g5'.1 _ hls4))
                · rintro j' ys' _ ⟨Rk5, -, -, h⟩
                  rw [sizeLine_eq]
                  exact one_line (pair_size h hT1)
                · intro C D3 I3 oC oI3 k3 j3 vl ys3 nw h19 tk19 mC E' hvl hJ hneC hCD hCI hDI F20 N20 hNs hmx
                  revert N20 hneC
                  apply PairJ.use hJ
                  intro Rk5 g5' ne5' hys5 hneC N20
                  refine ex1_2 (All2.get hlefts (by simpa using hvl)) fun tl htl hvl' => ?_
                  have h45 : ∀ p ∈ Rk4, p ∈ Rk5 := g5'.1
                  have N20' : News g' L' h19 ((C, oC) :: (D3, listOf ys3 k3) :: (I3, oI3) :: (L' + 1 + 1 + 1 + 1, oc4) :: (I2, oI2) :: (L' + 1 + 1 + 1, oc) :: (I, oI) :: Rk5) := N20
                  (try clear N20); (try clear N19); (try clear F19); (try clear F18); (try clear N18)
                  refine wpAny_tests_nil ?_
                  rw [if_pos rfl]
                  (try k_fold)
                  k_steps
                  exact PairJ.push (by assumption) (by assumption) hneC (allLt_mem (by assumption)) g5' ne5' hys5 htl hvl' hvr4 h45
                · intro Dc ysc kc nw h19 tk19 hJ F20 N20 hneD hltDc
                  revert N20 hneD
                  apply PairJ.use hJ
                  intro Rk5 g5' ne5' hys5 N20 hneD
                  have N20' : News g' L' h19 ((Dc, listOf ysc kc) :: (L' + 1 + 1 + 1 + 1, oc4) :: (I2, oI2) :: (L' + 1 + 1 + 1, oc) :: (I, oI) :: Rk5) := N20
                  (try clear N20); (try clear N19); (try clear F19); (try clear F18); (try clear N18)
                  have hlf55 : (lf5, listOf fv5 fn5) ∈ Rk5 := g5'.1 _ hlf5
                  have hsz1 : ysc.size ≤ 1 := pair_size hys5 hT1
                  have hsz2 : fv5.size ≤ 1000 := found_size hfv5' h2 hx0 rfl (hlen (n + 1) row hwf) hi hT1 (ite_len hT2)
                  have hsz3 := fv_ys hsz2 hsz1
                  have hys9 : All2 (TrIn Rk5) ysc.toList (((trees lv n (row.take (i + 1))).filter fun t => beside lv o t false).map fun l => Tr.bin o l r) := by
                    rw [List.take_of_length_le (by rw [← hlefts.length, Array.length_toList]; exact Nat.le_refl _)] at hys5
                    exact hys5
                  k_steps
                  exact InnerJ.push (by assumption) (by with_unfolding_all rfl) (by with_unfolding_all rfl) (by assumption) hoc4 (allLt_mem (by assumption)) hltDc (fun p hp => hneD p (List.mem_append.mpr (.inr hp))) hnI2 hg5 g5' ne5' (fun p hp => hg5.1 p (hRk23 p (hRk2 p (hG.1 p hp)))) hfv5' hys9 hr hbb hsb
              · intro m₁ news₁ h17 tk17 oc4 v4 hJ2
                apply InnerJ.use hJ2
                intro u5 lf5 fv5 fn5 Rk4 hg5 hne5 hlf5 hlf5R hfv5' F18 N18 hoc4 hn4
                (try clear N13'); (try clear F12)
                k_steps
                refine MainJ.push F18 (by with_unfolding_all rfl) N18 hoc hoc4 (hG.trans (gk2.trans ((Grows.cons (fun p hp => hltD p (.tail _ (.tail _ (.tail _ hp))))).trans (g13.trans hg5)))) hne5 hn4 hlf5 hlf5R hfv5' (by rw [← hrs.length, Array.length_toList]; exact Nat.le_refl _) hx ?_
                have hyl := hys.length
                rw [Array.length_toList, List.take_of_length_le (by rw [← hts2.length, Array.length_toList]; exact Nat.le_refl _)] at hyl
                by_cases e0 : ys.size = 0
                · rw [if_pos e0, if_pos (List.eq_nil_of_length_eq_zero (hyl.symm.trans e0))]
                · rw [if_neg e0, if_neg (fun e => e0 (by rw [hyl, e]; rfl))]
        all_goals intros
        all_goals rename (row[i + 1]? = _) => hx
        all_goals k_steps
        all_goals first
          | exact MainJ.skip (by assumption) (by assumption) (by with_unfolding_all rfl) (by intro p hp; exact hp) hoc hor hG hne hnI hlf hlfR hfv (rootAt_num hx (by intro o e; cases e))
      · intro m₁ news₁ h tk oc v₀ hJ
        apply MainJ.use hJ
        intro u2 lf fv2 fn2 orr v0r Rk hor hG hne hlf hlfR hfv F8 N8 hoc hnI
        (try clear N7); (try clear F7); (try clear F5); (try clear hR7); (try clear N6)
        k_steps
        refine hret _ _ _ _ (by assumption) (by assumption) ⟨lf, fv2, fn2, rfl, TreesEnd hG (fun p hp => Nat.lt_succ_of_lt (l1 p hp)) (Nat.lt_succ_self _) (Nat.lt_succ_self _) (Nat.lt_succ_self _), .tail _ (.tail _ hlf), fun q hq => hlfR q (.tail _ (.tail _ hq)), ?_⟩
        rw [trees_eq h2 hx0]
        exact hfv.mono fun _ _ x => x.mono fun p hp => .tail _ (.tail _ hp)
theorem trees_ok (w : World) (lv : Lv) (hm : lv .minus = ⟨.left, 6⟩) : ∀ n, n ≤ 21 → TreesIH w lv n := by
  intro n
  induction n with
  | zero =>
    intro _ row R d od kvs rl vs k hl hwf
    have : row = [] := List.eq_nil_of_length_eq_zero (Nat.le_zero.mp hl)
    subst this; cases hwf
  | succ n ih => exact fun h => trees_step w lv n (ih (by omega)) (fun k row hw => trees_one hm k row hw) (trees_size lv) (by omega)
noncomputable def CtxR (lv : Lv) (ws : List Wt) (t : Tr) : Prop := Ctx lv ws t ∧ (ws.head? = some .neg → isNeg t = false)
inductive Sk (lv : Lv) : Bool → List Wt → List Tr → List RE → Prop
  | start : Sk lv true [] [] []
  | opnd {ws ts toks t} : Sk lv true ws ts toks → Valid lv t → CtxR lv ws t → Sk lv false ws (t :: ts) (toks ++ tokens t)
  | op {o ws t ts toks} : Sk lv false ws (t :: ts) toks → o ≠ .minus → (∀ x ∈ edges true t, red (lv x) (lv o) = true) → (∀ w, ws.head? = some w → shf (w.fx lv) (lv o) = true) → Sk lv true (.bin o :: ws) (t :: ts) (toks ++ [.op o])
  | neg {ws ts toks} : Sk lv true ws ts toks → (∀ w, ws.head? = some w → (w.fx lv).level < 6) → Sk lv true (.neg :: ws) ts (toks ++ [.minus])
section
variable {α : Type} {G : Alg α} {lv : Lv}
theorem Sk.opnd' {ws : List Wt} {t : Tr} {ts : List Tr} {toks toks' : List RE} (h : Sk lv true ws ts toks) (hv : Valid lv t) (hc : CtxR lv ws t) (e : toks' = toks ++ tokens t) : Sk lv false ws (t :: ts) toks' := e ▸ .opnd h hv hc
theorem all_left {o : Op} {t : Tr} (h : ∀ x ∈ edges true t, red (lv x) (lv o) = true) : beside lv o t false = true := by
  unfold beside; rw [List.all_eq_true]; intro x hx; rw [one_left]; exact h x hx
theorem all_right {o : Op} {t : Tr} (h : ∀ x ∈ edges false t, shf (lv o) (lv x) = true) : beside lv o t true = true := by
  unfold beside; rw [List.all_eq_true]; intro x hx; rw [one_right]; exact h x hx
/-- One reduction. -/
theorem reduce_sound (hm : lv .minus = ⟨.left, 6⟩) {w : Wt} {ws : List Wt} {t : Tr} {ts : List Tr} {toks : List RE} {ps ps' : List α} (h : Sk lv false (w :: ws) (t :: ts) toks) (hv : All2 (fun t p => val G t = some p) (t :: ts) ps) (hr : reduce1 G w ps = some ps') :
    ∃ t' ts', Sk lv false ws (t' :: ts') toks ∧ All2 (fun t p => val G t = some p) (t' :: ts') ps' ∧ edges true t' = (match w with | .bin o => o | .neg => .minus) :: edges true t := by
  cases h with
  | opnd h1 hvt hct =>
    cases h1 with
    | op h2 ho hl hs =>
      cases h2 with
      | opnd h3 hvl hcl =>
        rename_i o l ts2 toks2
        cases hv with
        | cons v1 hv =>
          cases hv with
          | cons v2 hv =>
            simp only [re1, re2, re3, re4, re5, Option.map_eq_some_iff] at hr
            obtain ⟨q, hq, rfl⟩ := hr
            refine ⟨.bin o l t, ts2, Sk.opnd' h3 ⟨ho, hvl, hvt, all_left hl, all_right ?_, ?_⟩ ⟨?_, ?_⟩ (by simp [to1, to2, to3, to4]), .cons ?_ hv, rfl⟩
            · exact fun x hx => (hct.1 _ rfl).1 x hx
            · unfold signedOk
              cases hn : headNeg t with
              | false => rfl
              | true => have := (hct.1 _ rfl).2 hn; simpa [Wt.fx] using this
            · intro w hw
              refine ⟨fun x hx => ?_, (hcl.1 w hw).2⟩
              simp only [edges, List.mem_cons] at hx
              rcases hx with rfl | hx
              · exact hs w hw
              · exact (hcl.1 w hw).1 x hx
            · intro _; rfl
            · simp only [va1, va2, va3, va4, v1, v2, Option.bind_some]; exact hq
    | neg h2 hl =>
      cases hv with
      | cons v1 hv =>
        simp only [re1, re2, re3, re4, re5, Option.map_eq_some_iff] at hr
        obtain ⟨q, hq, rfl⟩ := hr
        refine ⟨.neg t, ts, Sk.opnd' h2 ⟨hvt, hct.2 rfl, all_right fun x hx => ?_⟩ ⟨?_, ?_⟩ (by simp [to1, to2, to3, to4]), .cons ?_ hv, rfl⟩
        · have := (hct.1 _ rfl).1 x hx; rw [hm]; exact this
        · intro w hw
          exact ⟨fun x hx => (nomatch hx), fun _ => hl w hw⟩
        · intro hw
          have := hl _ hw
          exact absurd this (by simp [Wt.fx])
        · simp only [va1, va2, va3, va4, v1, Option.bind_some]; exact hq
theorem settle_sound (hm : lv .minus = ⟨.left, 6⟩) {f : Fx} : ∀ {ws : List Wt} {t : Tr} {ts : List Tr} {toks : List RE} {ps : List α} {ws' : List Wt} {ps' : List α}, Sk lv false ws (t :: ts) toks → All2 (fun t p => val G t = some p) (t :: ts) ps → (∀ x ∈ edges true t, red (lv x) f = true) → settle G lv f ws ps = some (ws', ps') →
    ∃ t' ts', Sk lv false ws' (t' :: ts') toks ∧ All2 (fun t p => val G t = some p) (t' :: ts') ps' ∧ (∀ x ∈ edges true t', red (lv x) f = true) ∧ ∀ w, ws'.head? = some w → shf (w.fx lv) f = true
  | [], t, ts, toks, ps, ws', ps', h, hv, he, hs => by
    cases hs
    exact ⟨t, ts, h, hv, he, fun w hw => nomatch hw⟩
  | w :: ws, t, ts, toks, ps, ws', ps', h, hv, he, hs => by
    simp only [se1, se2] at hs
    cases hcl : clash (w.fx lv) f with
    | true => rw [hcl] at hs; cases hs
    | false =>
      rw [hcl] at hs
      cases hf : first' (w.fx lv) f with
      | false =>
        rw [hf] at hs
        cases hs
        refine ⟨t, ts, h, hv, he, fun w' hw => ?_⟩
        cases hw
        simp [shf, hcl, hf]
      | true =>
        rw [hf] at hs
        simp only [Bool.false_eq_true, if_false, if_true] at hs
        cases hr : reduce1 G w ps with
        | none => rw [hr] at hs; cases hs
        | some ps2 =>
          rw [hr] at hs
          obtain ⟨t2, ts2, h2, hv2, he2⟩ := reduce_sound hm h hv hr
          refine settle_sound hm h2 hv2 ?_ hs
          rw [he2]
          intro x hx
          rcases List.mem_cons.mp hx with rfl | hx
          · cases w with
            | bin o => simp only [Wt.fx] at hcl hf; simp [red, hcl, hf]
            | neg => simp only [Wt.fx] at hcl hf; rw [hm]; simp [red, hcl, hf]
          · exact he x hx
theorem whole_sound (hm : lv .minus = ⟨.left, 6⟩) : ∀ {ws : List Wt} {t : Tr} {ts : List Tr} {toks : List RE} {ps ps' : List α}, Sk lv false ws (t :: ts) toks → All2 (fun t p => val G t = some p) (t :: ts) ps → whole G ws ps = some ps' →
    ∃ t' p, Valid lv t' ∧ tokens t' = toks ∧ val G t' = some p ∧ ps' = [p]
  | [], t, ts, toks, ps, ps', h, hv, hs => by
    cases hs
    cases h with
    | opnd h1 hvt _ =>
      cases h1 with
      | start =>
        cases hv with
        | cons v hv => cases hv; exact ⟨t, _, hvt, rfl, v, rfl⟩
  | w :: ws, t, ts, toks, ps, ps', h, hv, hs => by
    simp only [wh1, wh2] at hs
    cases hr : reduce1 G w ps with
    | none => rw [hr] at hs; cases hs
    | some ps2 =>
      rw [hr] at hs
      obtain ⟨t2, ts2, h2, hv2, _⟩ := reduce_sound hm h hv hr
      exact whole_sound hm h2 hv2 hs
theorem leaf_ctx {ws : List Wt} {t : Tr} (h1 : edges false t = []) (h2 : headNeg t = false) (h3 : isNeg t = false) : CtxR lv ws t :=
  ⟨fun w _ => ⟨fun x hx => by rw [h1] at hx; exact (nomatch hx), fun h => by rw [h2] at h; cases h⟩, fun _ => h3⟩
theorem take_sound (hm : lv .minus = ⟨.left, 6⟩) {due : Bool} {rest : List RE} (hwf : WF due rest) : ∀ {ws : List Wt} {ts : List Tr} {toks : List RE} {ps : List α} {ws' : List Wt} {ps' : List α}, Sk lv due ws ts toks → (due = false → ∃ t ts', ts = t :: ts' ∧ edges true t = []) → All2 (fun t p => val G t = some p) ts ps → takeAll G lv rest due ws ps = some (ws', ps') →
    ∃ t' ts', Sk lv false ws' (t' :: ts') (toks ++ rest) ∧ All2 (fun t p => val G t = some p) (t' :: ts') ps' := by
  induction hwf with
  | nil =>
    intro ws ts toks ps ws' ps' h hd hv ht
    obtain ⟨t, ts', rfl, _⟩ := hd rfl
    simp only [tA1, tA2, tA3, tA4, tA5, Bool.false_eq_true, if_false, Option.some.injEq, Prod.mk.injEq] at ht
    obtain ⟨rfl, rfl⟩ := ht
    exact ⟨t, ts', by rw [List.append_nil]; exact h, hv⟩
  | @num k r _ ih =>
    intro ws ts toks ps ws' ps' h _ hv ht
    have := ih (Sk.opnd' (toks' := toks ++ [.num k]) h (t := .num k) trivial (leaf_ctx rfl rfl rfl) rfl) (fun _ => ⟨_, _, rfl, rfl⟩) (.cons rfl hv) ht
    simpa using this
  | @var r _ ih =>
    intro ws ts toks ps ws' ps' h _ hv ht
    have := ih (Sk.opnd' (toks' := toks ++ [.var]) h (t := .var) trivial (leaf_ctx rfl rfl rfl) rfl) (fun _ => ⟨_, _, rfl, rfl⟩) (.cons rfl hv) ht
    simpa using this
  | @mnum k r _ ih =>
    intro ws ts toks ps ws' ps' h _ hv ht
    simp only [tA1, tA2, tA3, tA4, tA5] at ht
    split at ht
    · cases ht
    · rename_i hno
      have hl : ∀ w, ws.head? = some w → (w.fx lv).level < 6 := fun w hw => by
        rw [hw] at hno; simp at hno; omega
      have := ih (Sk.opnd' (toks' := toks ++ [.minus] ++ [.num k]) (.neg h hl) (t := .num k) trivial (leaf_ctx rfl rfl rfl) rfl) (fun _ => ⟨_, _, rfl, rfl⟩) (.cons rfl hv) ht
      simpa using this
  | @mvar r _ ih =>
    intro ws ts toks ps ws' ps' h _ hv ht
    simp only [tA1, tA2, tA3, tA4, tA5] at ht
    split at ht
    · cases ht
    · rename_i hno
      have hl : ∀ w, ws.head? = some w → (w.fx lv).level < 6 := fun w hw => by
        rw [hw] at hno; simp at hno; omega
      have := ih (Sk.opnd' (toks' := toks ++ [.minus] ++ [.var]) (.neg h hl) (t := .var) trivial (leaf_ctx rfl rfl rfl) rfl) (fun _ => ⟨_, _, rfl, rfl⟩) (.cons rfl hv) ht
      simpa using this
  | @op o r ho _ ih =>
    intro ws ts toks ps ws' ps' h hd hv ht
    obtain ⟨t, ts', rfl, he⟩ := hd rfl
    simp only [tA1, tA2, tA3, tA4, tA5] at ht
    cases hs : settle G lv (lv o) ws ps with
    | none => rw [hs] at ht; cases ht
    | some x =>
      obtain ⟨ws2, ps2⟩ := x
      rw [hs] at ht
      obtain ⟨t2, ts2, h2, hv2, he2, hw2⟩ := settle_sound hm h hv (by rw [he]; intro x hx; exact (nomatch hx)) hs
      have := ih (.op h2 ho he2 hw2) (fun h => by cases h) hv2 ht
      simpa using this
theorem parse_sound (hm : lv .minus = ⟨.left, 6⟩) {row : List RE} (hwf : WF true row) {p : α} (h : parse G lv row = some p) : ∃ t, Valid lv t ∧ tokens t = row ∧ val G t = some p := by
  unfold parse at h
  cases h1 : takeAll G lv row true [] [] with
  | none => rw [h1] at h; cases h
  | some x =>
    obtain ⟨ws, ps⟩ := x
    rw [h1] at h
    simp only [Option.bind_some] at h
    obtain ⟨t, ts, hsk, hv⟩ := take_sound hm hwf .start (fun h => by cases h) .nil h1
    cases h2 : whole G ws ps with
    | none => rw [h2] at h; cases h
    | some ps2 =>
      rw [h2] at h
      obtain ⟨t', q, hv', ht', hval, rfl⟩ := whole_sound hm hsk hv h2
      cases h
      exact ⟨t', hv', by simpa using ht', hval⟩
end
theorem tokens_ne : ∀ t : Tr, tokens t ≠ []
  | .num _ => by simp [to1, to2, to3, to4]
  | .var => by simp [to1, to2, to3, to4]
  | .neg _ => by simp [to1, to2, to3, to4]
  | .bin _ _ _ => by simp [to1, to2, to3, to4]
/-- A valid tree of the row is among the law's. -/
theorem mem_trees {lv : Lv} (hm : lv .minus = ⟨.left, 6⟩) : ∀ (n : Nat) (t : Tr), Valid lv t → (tokens t).length ≤ n → t ∈ trees lv n (tokens t) := by
  intro n
  induction n with
  | zero => intro t _ h; exact absurd (List.eq_nil_of_length_eq_zero (Nat.le_zero.mp h)) (tokens_ne t)
  | succ n ih =>
    intro t hv hl
    cases t with
    | num k => simp [to1, to2, to3, to4, tr1, tr2, leafOf]
    | var => simp [to1, to2, to3, to4, tr1, tr2, leafOf]
    | neg t =>
      have hne := tokens_ne t
      have h2 : 2 ≤ (tokens (.neg t)).length := by
        simp only [to1, to2, to3, to4, List.length_cons]
        have := List.length_pos_iff.mpr hne; omega
      rw [trees_eq h2 (x0 := .minus) (by simp [to1, to2, to3, to4])]
      refine List.mem_append.mpr (.inl ?_)
      rw [if_pos rfl]
      refine List.mem_map.mpr ⟨t, List.mem_filter.mpr ⟨ih t hv.1 (by simp only [to1, to2, to3, to4, List.length_cons] at hl; omega), ?_⟩, rfl⟩
      simp [hv.2.1, hv.2.2]
    | bin o l r =>
      obtain ⟨ho, hvl, hvr, hbl, hbr, hs⟩ := hv
      have hpl := List.length_pos_iff.mpr (tokens_ne l)
      have hpr := List.length_pos_iff.mpr (tokens_ne r)
      have hlen : (tokens (.bin o l r)).length = (tokens l).length + (tokens r).length + 1 := by simp [to1, to2, to3, to4]; omega
      obtain ⟨x0, hx0⟩ : ∃ x0, (tokens (.bin o l r))[0]? = some x0 := ⟨_, List.getElem?_eq_getElem (by omega)⟩
      rw [trees_eq (by omega) hx0]
      refine List.mem_append.mpr (.inr (List.mem_flatMap.mpr ⟨(tokens l).length - 1, List.mem_range.mpr (by omega), ?_⟩))
      have ek : (tokens l).length - 1 + 1 = (tokens l).length := by omega
      rw [ek]
      have hk : (tokens (.bin o l r))[(tokens l).length]? = some (.op o) := by simp [to1, to2, to3, to4]
      have e1 : (tokens (.bin o l r)).take (tokens l).length = tokens l := by simp [to1, to2, to3, to4]
      have e2 : (tokens (.bin o l r)).drop ((tokens l).length + 1) = tokens r := by
        simp only [to1, to2, to3, to4]
        rw [List.drop_append]; simp
      have ml : l ∈ (trees lv n (tokens l)).filter fun t => beside lv o t false := List.mem_filter.mpr ⟨ih l hvl (by omega), hbl⟩
      rw [rootAt_op hk _ rfl, e1, e2, if_neg (List.ne_nil_of_mem ml)]
      refine List.mem_flatMap.mpr ⟨r, List.mem_filter.mpr ⟨ih r hvr (by omega), by simp [hbr, hs]⟩, List.mem_map.mpr ⟨l, ml, rfl⟩⟩
/-- The plain law: what the program makes of a row is what the law says. -/
theorem plain_law {α : Type} (G : Alg α) {lv : Lv} (hm : lv .minus = ⟨.left, 6⟩) {row : List RE} (hwf : WF true row) {n : Nat} (hn : row.length ≤ n) :
    parse G lv row = (trees lv n row).head?.bind (val G) := by
  cases h : trees lv n row with
  | nil =>
    cases hp : parse G lv row with
    | none => rfl
    | some p =>
      obtain ⟨t, hv, rfl, _⟩ := parse_sound hm hwf hp
      have := mem_trees hm n t hv hn
      rw [h] at this; exact (nomatch this)
  | cons t ts =>
    obtain ⟨hv, ht⟩ := trees_mem lv n row hwf t (by rw [h]; exact .head _)
    subst ht
    exact parse_valid hm hv
/-- The program's own making. -/
noncomputable def ptAlg : Alg Pt where
  leaf := fun | .num k => .lit k | _ => .var
  mkc := fun o l r => if o = .plus ∨ o = .minus then none else some (.con o l r)
  ng := fun p => match p with | .lit k => some (.lit (-k)) | _ => none
theorem val_node {lv : Lv} : ∀ {t : Tr}, Valid lv t → val ptAlg t = nodeOf t
  | .num _, _ => rfl
  | .var, _ => rfl
  | .neg t, h => by
    simp only [va1, va2, va3, va4]
    rw [val_node h.1]
    cases t with
    | num k => simp [nof1, nof2, nof3, nof4, nof5, nof6, nof7, ptAlg]
    | var => rfl
    | neg t => cases h.2.1
    | bin o l r =>
      simp only [nof1, nof2, nof3, nof4, nof5, nof6, nof7]
      cases nodeOf l with
      | none => rfl
      | some a => cases nodeOf r with
        | none => rfl
        | some b => by_cases e : o = .plus <;> simp [e, ptAlg]
  | .bin o l r, h => by
    simp only [va1, va2, va3, va4]
    rw [val_node h.2.1, val_node h.2.2.1]
    simp only [nof1, nof2, nof3, nof4, nof5, nof6, nof7]
    cases nodeOf l <;> cases nodeOf r <;> simp [ptAlg, h.1]
theorem plain_law_pt {lv : Lv} (hm : lv .minus = ⟨.left, 6⟩) {row : List RE} (hwf : WF true row) {n : Nat} (hn : row.length ≤ n) :
    parse ptAlg lv row = (trees lv n row).head?.bind nodeOf := by
  rw [plain_law ptAlg hm hwf hn]
  cases h : trees lv n row with
  | nil => rfl
  | cons t ts => exact val_node (trees_mem lv n row hwf t (by rw [h]; exact .head _)).1
theorem WF.glue' {b : Bool} {a r : List RE} {o : Op} (h : WF b a) (ho : o ≠ .minus) (hr : WF true r) : WF b (a ++ .op o :: r) := by
  induction h with
  | nil => exact .op ho hr
  | num _ ih => exact .num ih
  | var _ ih => exact .var ih
  | mnum _ ih => exact .mnum ih
  | mvar _ ih => exact .mvar ih
  | op h _ ih => exact .op h ih
theorem op_item {w : World} {A : Around} {E : Value → Shared → Prop} {s : Shared} {h₀ : Heap} {L : Addr} {news : Led} {value slice : PySem.Expr} {l : Nat} {k : Int} {u t0 t1 t2 t3 t4 t5 t6 t7 t8 t9 : Tok} {n : Nat} {Q : Value → Shared → Prop} (N : News h₀ L s.heap news)
    (hl : (l, W.listOf [Value.str (Str.ofString ":+") t0, .str (Str.ofString ":*") t1, .str (Str.ofString ":=") t2, .str (Str.ofString ":") t3, .str (Str.ofString ":+") t4, .str (Str.ofString ":*") t5, .str (Str.ofString ":=") t6, .str (Str.ofString ":") t7, .str (Str.ofString ":") t8, .str (Str.ofString "plus") t9].toArray n) ∈ news) (h0 : 0 ≤ k) (h1 : k < 10) (h : ∀ o t, o ≠ Op.minus → Q (.str (Op.str o) t) s)
    (hs : subscripted slice false (.ref l) (.int k u) = operate [.ref l, .int k u] (getItem (.ref l) (.int k u)) := by with_unfolding_all rfl) :
    wpAny (model PySem.Challenge.rw_og0006_01.row.prog w) A (subscriptTail value slice (.ref l) (.int k u)) Q E s := by
  have H : ∀ v, [Value.str (Str.ofString ":+") t0, .str (Str.ofString ":*") t1, .str (Str.ofString ":=") t2, .str (Str.ofString ":") t3, .str (Str.ofString ":+") t4, .str (Str.ofString ":*") t5, .str (Str.ofString ":=") t6, .str (Str.ofString ":") t7, .str (Str.ofString ":") t8, .str (Str.ofString "plus") t9][k.toNat]? = some v → Q v s := by
    intro v hv
    obtain ⟨j, rfl⟩ := Int.eq_ofNat_of_zero_le h0
    match j, hv with
    | 0, hv => cases hv; exact h .plusC _ (by decide)
    | 1, hv => cases hv; exact h .timesC _ (by decide)
    | 2, hv => cases hv; exact h .eqC _ (by decide)
    | 3, hv => cases hv; exact h .colon _ (by decide)
    | 4, hv => cases hv; exact h .plusC _ (by decide)
    | 5, hv => cases hv; exact h .timesC _ (by decide)
    | 6, hv => cases hv; exact h .eqC _ (by decide)
    | 7, hv => cases hv; exact h .colon _ (by decide)
    | 8, hv => cases hv; exact h .colon _ (by decide)
    | 9, hv => cases hv; exact h .plus _ (by decide)
    | j + 10, hv => cases hv
  have hlt : k.toNat < 10 := by omega
  exact item_litK (vs := [Value.str (Str.ofString ":+") t0, .str (Str.ofString ":*") t1, .str (Str.ofString ":=") t2, .str (Str.ofString ":") t3, .str (Str.ofString ":+") t4, .str (Str.ofString ":*") t5, .str (Str.ofString ":=") t6, .str (Str.ofString ":") t7, .str (Str.ofString ":") t8, .str (Str.ofString "plus") t9]) ⟨_, (N _ hl).1, rfl, n, rfl⟩ h0 (by omega) (List.getElem?_eq_getElem hlt) (H _ (List.getElem?_eq_getElem hlt)) hs
local macro_rules | `(tactic| walk_at "subscriptTail") => sq [atSub "Value.int _ _", dk (ru "op_item" "amhh_w"), tl "oi' ti' hoi'" ""]
local macro_rules | `(tactic| walk_at "newList") => sq newLst
local macro_rules | `(tactic| walk_at "newList nil") => sq newLst
local macro_rules | `(tactic| walk_at "newTuple") => sq newTup
local macro_rules | `(tactic| walk_at "exec For Name Call cons nil") => sq [stop1 "MarkStop"]
local macro_rules | `(tactic| walk_at "call type:range") => sq [atT "call ( Value.type _ ) ( List.cons _ List.nil ) _", ren "Fr _ _ _ _" "F'", ren "News _ _ _ _" "N'", wu (rf "range1_rows %F' %N' ?_"), intros "a1 a2 a3 a4 a5 a6 a7 a8 a9", stop]
local macro_rules | `(tactic| walk_at "getMethod ref") => sq [atMeth "\"append\"", dk (ru "kl_method" "am$$_" "PySem.F.slot_list_append PySem.F.type_list_append")]
local macro_rules | `(tactic| walk_at "eval Call Attribute") => sq [atT "eval ( Expr.Call ( Expr.Attribute ( Expr.Name \"row\" _ ) _ _ ) _ List.nil _ ) _", rf "MethodCall_ ?_"]
local macro_rules | `(tactic| walk_at "callWith") => sq [ruI "callWith_method1" "_rr" [] rd]
theorem allNe_consR {a x : Nat} {o : Obj} {R : Led} (h : @Ne Nat a x) (hr : ∀ p ∈ R, @Ne Nat p.1 x) : ∀ p ∈ (a, o) :: R, @Ne Nat p.1 x := fun p hp => (List.mem_cons.mp hp).elim (fun e => by rw [e]; exact h) (hr p)
noncomputable def RowJ (src lr : Nat) (R : Led) (m₀ : Loc) (i : Nat) (m : Loc) (news : Led) : Prop :=
  ∃ (u : Option Value) (so : Obj) (vs : Array Value) (k : Nat) (R' : Led) (row : List RE), m = (fun y => if y = Str.ofString "turn" then u else m₀ y) ∧ SrcObj so ∧ news = (lr, listOf vs k) :: (src, so) :: R' ∧ (∀ p ∈ R, p ∈ R') ∧ (∀ p ∈ R', p.1 ≠ src) ∧ (∀ p ∈ R', p.1 ≠ lr) ∧ lr ≠ src ∧ All2 (ReIn R') vs.toList row ∧ vs.size ≤ 3 * i ∧ ((i = 0 ∧ row = []) ∨ (0 < i ∧ WF true row))
theorem RowJ.use {src lr : Nat} {R : Led} {m₀ : Loc} {i : Nat} {m : Loc} {news : Led} {C : Loc → Led → Prop} (h : RowJ src lr R m₀ i m news) (k : ∀ (u : Option Value) (so : Obj) (vs : Array Value) (k : Nat) (R' : Led) (row : List RE), SrcObj so → (∀ p ∈ R, p ∈ R') → (∀ p ∈ R', p.1 ≠ src) → (∀ p ∈ R', p.1 ≠ lr) → lr ≠ src → All2 (ReIn R') vs.toList row → vs.size ≤ 3 * i → ((i = 0 ∧ row = []) ∨ (0 < i ∧ WF true row)) → C (fun y => if y = Str.ofString "turn" then u else m₀ y) ((lr, listOf vs k) :: (src, so) :: R')) : C m news := by
  obtain ⟨u, so, vs, n, R', row, rfl, a, rfl, b, c, d, e, f, g, h⟩ := h
  exact k u so vs n R' row a b c d e f g h
local macro_rules | `(tactic| walk_at "exec If Compare cons nil") => sq [stop1 "MarkStop"]
noncomputable def RwMid (g : Heap) (L I : Nat) (oI : Obj) (src lr : Nat) (R : Led) (m : Loc) (C : List RE → Prop) (z : Nat) (s s' : Shared) : Prop :=
  ∃ (h' : Heap) (tk' : Nat) (so : Obj) (vs : Array Value) (k : Nat) (R' : Led) (row : List RE), s' = { s with heap := h', toks := tk' } ∧ Fr g L h' m ∧ News g L h' ((I, oI) :: (lr, listOf vs k) :: (src, so) :: R') ∧ SrcObj so ∧ (∀ p ∈ R, p ∈ R') ∧ (∀ p ∈ R', @Ne Nat p.1 src) ∧ (∀ p ∈ R', @Ne Nat p.1 lr) ∧ (∀ p ∈ R', @Ne Nat p.1 I) ∧ All2 (ReIn R') vs.toList row ∧ vs.size ≤ z ∧ C row
theorem RwMid.use {g : Heap} {L I : Nat} {oI : Obj} {src lr : Nat} {R : Led} {m : Loc} {P : List RE → Prop} {z : Nat} {s s' : Shared} {C : Shared → Prop} (h : RwMid g L I oI src lr R m P z s s') (k : ∀ (h' : Heap) (tk' : Nat) (so : Obj) (vs : Array Value) (k : Nat) (R' : Led) (row : List RE), Fr g L h' m → News g L h' ((I, oI) :: (lr, listOf vs k) :: (src, so) :: R') → SrcObj so → (∀ p ∈ R, p ∈ R') → (∀ p ∈ R', @Ne Nat p.1 src) → (∀ p ∈ R', @Ne Nat p.1 lr) → (∀ p ∈ R', @Ne Nat p.1 I) → All2 (ReIn R') vs.toList row → vs.size ≤ z → P row → C { s with heap := h', toks := tk' }) : C s' := by
  obtain ⟨h', tk', so, vs, n, R', row, rfl, a, b, c, d, e, f, g, h, i, j⟩ := h
  exact k h' tk' so vs n R' row a b c d e f g h i j
theorem rmid_cut {M : Model} {A : Around} {E : Value → Shared → Prop} {x : Sem Flow} {Q : Flow → Shared → Prop} {g h : Heap} {L : Addr} {m : Loc} {s1 : Shared} (I : Nat) (oI : Obj) (src lr : Nat) (R : Led) (C : List RE → Prop) (z : Nat) (s : Shared) (_F : Fr g L h m)
    (h1 : wpAny M A x (fun f s' => f = .next ∧ RwMid g L I oI src lr R m C z s s') E s1) (h2 : ∀ s', RwMid g L I oI src lr R m C z s s' → Q .next s') : wpAny M A x Q E s1 :=
  wpAny_mono h1 (fun f s' p => by obtain ⟨rfl, p⟩ := p; exact h2 s' p) fun _ _ e => e
noncomputable def Open1 (row : List RE) : Prop := ∀ r, WF true r → WF true (row ++ r)
noncomputable def Open2 (row : List RE) : Prop := ∀ x : RE, x.isOperand = true → WF true (row ++ [x])
theorem RwMid.same {g h : Heap} {L : Addr} {I src lr k z tk : Nat} {oI so : Obj} {R R' news : Led} {m : Loc} {C : List RE → Prop} {s : Shared} {vs : Array Value} {row : List RE} (F : Fr g L h m) (N : News g L h news) (hs : ∀ p ∈ (I, oI) :: (lr, listOf vs k) :: (src, so) :: R', p ∈ news) (hso : SrcObj so) (hsub : ∀ p ∈ R, p ∈ R') (h1 : ∀ p ∈ R', @Ne Nat p.1 src) (h2 : ∀ p ∈ R', @Ne Nat p.1 lr) (h3 : ∀ p ∈ R', @Ne Nat p.1 I) (hrow : All2 (ReIn R') vs.toList row) (hz : vs.size ≤ z) (hC : C row) :
    RwMid g L I oI src lr R m C z s { s with heap := h, toks := tk } := ⟨h, tk, so, vs, k, R', row, rfl, F, News.sub N hs, hso, hsub, h1, h2, h3, hrow, hz, hC⟩
theorem RwMid.push {g h : Heap} {L : Addr} {I src lr k z tk : Nat} {oI so : Obj} {R R' news : Led} {m : Loc} {C : List RE → Prop} {s : Shared} {vs : Array Value} {row : List RE} {v : Value} {x : RE} (F : Fr g L h m) (N : News g L h news) (hs : ∀ p ∈ (I, oI) :: (lr, listOf (vs.push v) k) :: (src, so) :: R', p ∈ news) (hso : SrcObj so) (hsub : ∀ p ∈ R, p ∈ R') (h1 : ∀ p ∈ R', @Ne Nat p.1 src) (h2 : ∀ p ∈ R', @Ne Nat p.1 lr) (h3 : ∀ p ∈ R', @Ne Nat p.1 I) (hrow : All2 (ReIn R') vs.toList row) (hv : ReIn R' v x) (hz : vs.size + 1 ≤ z) (hC : C (row ++ [x])) :
    RwMid g L I oI src lr R m C z s { s with heap := h, toks := tk } := RwMid.same F N hs hso hsub h1 h2 h3 (by rw [Array.toList_push]; exact All2.append hrow (.cons hv .nil)) (by rw [Array.size_push]; exact hz) hC
theorem row_end {g h : Heap} {L : Addr} {I src lr k tk i : Nat} {oI so : Obj} {R R' news : Led} {m m₀ : Loc} {u : Option Value} {s : Shared} {Q : Flow → Shared → Prop} {vs : Array Value} {row : List RE} {v : Value} {x : RE} (F : Fr g L h m) (em : m = fun y => if y = Str.ofString "turn" then u else m₀ y) (N : News g L h news) (hs : ∀ p ∈ (I, oI) :: (lr, listOf (vs.push v) k) :: (src, so) :: R', p ∈ news) (hso : SrcObj so) (hsub : ∀ p ∈ R, p ∈ R') (h1 : ∀ p ∈ R', @Ne Nat p.1 src) (h2 : ∀ p ∈ R', @Ne Nat p.1 lr) (h3 : ∀ p ∈ R', @Ne Nat p.1 I) (g1 : @Ne Nat lr I) (g2 : @Ne Nat src I) (g4 : @Ne Nat lr src) (hrow : All2 (ReIn R') vs.toList row) (hv : ReIn R' v x) (hz : vs.size ≤ 3 * i + 2) (hx : x.isOperand = true) (hC : Open2 row) :
    TurnPost g L I oI (RowJ src lr R m₀ (i + 1)) s Q .next { s with heap := h, toks := tk } := by
  refine ⟨h, tk, _, (lr, listOf (vs.push v) k) :: (src, so) :: R', rfl, F, News.sub N hs, ?_, u, so, _, _, R', row ++ [x], em, hso, rfl, hsub, h1, h2, g4, by rw [Array.toList_push]; exact All2.append hrow (.cons hv .nil), by rw [Array.size_push]; omega, .inr ⟨Nat.succ_pos _, hC x hx⟩⟩
  intro p hp
  rcases List.mem_cons.mp hp with rfl | hp
  · exact g1
  rcases List.mem_cons.mp hp with rfl | hp
  · exact g2
  · exact h3 p hp
theorem perm4 {a b c d : Addr × Obj} {R : Led} : ∀ p ∈ b :: c :: d :: a :: R, p ∈ a :: b :: c :: d :: R := by grind
theorem row_endD {g h : Heap} {L : Addr} {I src lr k tk i D : Nat} {oI so : Obj} {R R' : Led} {m m₀ : Loc} {u : Option Value} {tx : Tok} {s : Shared} {Q : Flow → Shared → Prop} {vs : Array Value} {row : List RE} (F : Fr g L h m) (em : m = fun y => if y = Str.ofString "turn" then u else m₀ y) (N : News g L h ((D, { cls := .type "tuple", data := .seq #[.str (Str.ofString "x") tx] }) :: (I, oI) :: (lr, listOf (vs.push (.ref D)) k) :: (src, so) :: R')) (hso : SrcObj so) (hsub : ∀ p ∈ R, p ∈ R') (h1 : ∀ p ∈ R', @Ne Nat p.1 src) (h2 : ∀ p ∈ R', @Ne Nat p.1 lr) (h3 : ∀ p ∈ R', @Ne Nat p.1 I) (g1 : @Ne Nat lr I) (g2 : @Ne Nat src I) (g4 : @Ne Nat lr src) (hrow : All2 (ReIn R') vs.toList row) (hz : vs.size ≤ 3 * i + 2) (hC : Open2 row)
    (l1 : @LT.lt Nat _ I D ∧ @LT.lt Nat _ lr D ∧ @LT.lt Nat _ src D ∧ AllLt D R') :
    TurnPost g L I oI (RowJ src lr R m₀ (i + 1)) s Q .next { s with heap := h, toks := tk } := by
  have hs : ∀ p ∈ R', p ∈ (D, tupOf [Value.str (Str.ofString "x") tx]) :: R' := fun _ hp => .tail _ hp
  exact row_end F em N perm4 hso (fun p hp => hs p (hsub p hp)) (allNe_consR (Nat.ne_of_gt l1.2.2.1) h1) (allNe_consR (Nat.ne_of_gt l1.2.1) h2) (allNe_consR (Nat.ne_of_gt l1.1) h3) g1 g2 g4 (hrow.mono fun _ _ x => x.mono hs) (.var (.head _)) hz rfl hC
theorem open_op {row : List RE} {o : Op} (h : WF true row) (ho : o ≠ .minus) : Open1 (row ++ [.op o]) := fun r hr => by rw [List.append_assoc]; exact h.glue' ho hr
theorem open_minus {row : List RE} (h : Open1 row) : Open2 (row ++ [.minus]) := fun x hx => by
  rw [List.append_assoc]
  refine h _ ?_
  cases x <;> first | cases hx; done | exact .mnum .nil | exact .mvar .nil
theorem open_none {row : List RE} (h : Open1 row) : Open2 row := fun x hx => by
  refine h _ ?_
  cases x <;> first | cases hx; done | exact .num .nil | exact .var .nil
theorem rs0_eq {d : Int} : Builtin.Range.rangeSize 0 (1 + d) 1 = (((1 + d).toNat : Nat) : Int) := by rw [rangeSize_nat, Int.sub_zero]
theorem sm0_eq {d : Int} (h : 0 ≤ d) (h2 : d < 4) : Builtin.Range.small 0 (1 + d) 1 = true := small_one (by decide) (by decide) (by omega) (by omega)
theorem rw4 {i : Nat} {d : Int} (h : i < (1 + d).toNat) (h2 : d < 4) : i < 4 := by omega
theorem rw16 {i z : Nat} (h : z ≤ 3 * i) (h2 : i < 4) : z ≤ 12 := by omega
theorem rw_none {d : Int} {P : Prop} (h : 0 ≤ d) : ¬ ((1 + d).toNat = 0 ∧ P) := by omega
theorem rw_len {α β : Type} {a : Array α} {b : List β} {d : Int} (h : a.toList.length = b.length) (h2 : a.size ≤ 3 * (1 + d).toNat) (h3 : d < 4) : b.length ≤ 12 := by rw [Array.length_toList] at h; omega
set_option maxRecDepth 100000 in
set_option maxHeartbeats 8000000 in
theorem row_ok (w : World) (src : Nat) (o : Obj) (R : Led) (hS : SrcObj o) (hR : ∀ p ∈ R, p.1 ≠ src) :
  Calls w 405 [.ref src] 2 ((src, o) :: R) (fun r led' => ∃ so lr vs k R' row, r = .ref lr ∧ SrcObj so ∧ led' = (src, so) :: R' ∧ (∀ p ∈ R, p ∈ R') ∧ (∀ p ∈ R', p.1 ≠ src) ∧ (lr, listOf vs k) ∈ R' ∧ All2 (ReIn R') vs.toList row ∧ WF true row ∧ row.length ≤ 12) := by
  unfold Calls
  intro p loose mean mg mb dp un gd cn cs a ccd cl outer A₀ base h₀ L m s Q E B F X N T hk hdp hun hret
  revert X; k_fill; intro X
  refine wpAny_call ?_
  k_dflt ktr_enter
  refine letA ?_
  intro Ak
  have ms : MarkStop := trivial
  k_steps
  unfold Stop
  rename Fr _ _ _ _ => F1
  with_unfolding_all refine' For_invVF F1 ?hx ?hp ?_; (case hx => rfl); (case hp => rfl)
  rename_i lr _ l1 _ _
  k_steps
  unfold Stop
  rename IsRange _ _ _ _ _ _ _ _ => hR7
  rename News _ _ _ _ => N7
  rename Fr _ _ _ _ => F7
  rename SrcObj _ => hS7
  rename @LE.le Int _ 0 _ => hd0
  rename @LT.lt Int _ _ 4 => hd1
  have hsm := sm0_eq hd0 hd1
  refine iter_range (fun m₀ => RowJ src lr R m₀) (by rfl) hR7 hsm rs0_eq F7 N7 ⟨_, _, #[], 0, R, [], loc_same, hS7, rfl, fun p hp => hp, hR, fun p hp => Nat.ne_of_lt (allLt_mem l1.2 p hp), Nat.ne_of_gt l1.1, .nil, Nat.zero_le _, .inl ⟨rfl, rfl⟩⟩ ?_ ?_
  · intro I i t m₁ news₁ h tk oI hi hJ
    apply RowJ.use hJ
    intro u so vs k R' row hso hsub h1 h2 h3 hrow hsz hcase hnI F2 N2
    have g1 : @Ne Nat lr I := hnI _ (.head _)
    have g2 : @Ne Nat src I := hnI _ (.tail _ (.head _))
    have g3 : ∀ p ∈ R', p.1 ≠ I := fun p hp => hnI p (.tail _ (.tail _ hp))
    have g4 : @Ne Nat lr src := h3
    have hi4 : i < 4 := rw4 hi hd1
    have hz16 := rw16 hsz hi4
    have hz17 : vs.size + 1 ≤ 16777216 := Nat.le_trans (Nat.succ_le_succ hz16) (by decide)
    (try clear F1); (try clear F7); (try clear N7); (try clear hR7)
    have ms : MarkStop := trivial
    (try k_fold)
    k_steps
    unfold Stop
    refine rmid_cut I oI src lr R Open1 (3 * i + 1) s F2 ?_ ?_
    · k_steps
      · exact RwMid.push (by assumption) (by assumption) (fun _ hp => .tail _ hp) (by assumption) hsub h1 h2 g3 hrow .op (Nat.succ_le_succ hsz) (open_op (hcase.resolve_left (by omega)).2 (by assumption))
      · obtain ⟨_, rfl⟩ : i = 0 ∧ row = [] := hcase.resolve_right (by omega)
        exact RwMid.same (by assumption) (by assumption) (fun _ hp => hp) (by assumption) hsub h1 h2 g3 hrow (Nat.le_succ_of_le hsz) fun r hr => hr
    · intro s3 hM3
      apply RwMid.use hM3
      intro h3 tk3 so3 vs3 k3 R3 row3 F3 N3 hso3 hsub3 h13 h23 h33 hrow3 hsz3 hC3
      clear F2 N2 hso h1 h2 hrow g3 hsub
      dsimp only
      have ms : MarkStop := trivial
      k_steps
      unfold Stop
      refine rmid_cut I oI src lr R Open2 (3 * i + 2) s F3 ?_ ?_
      · k_steps
        · exact RwMid.push (by assumption) (by assumption) (fun _ hp => hp) (by assumption) hsub3 h13 h23 h33 hrow3 .minus (Nat.succ_le_succ hsz3) (open_minus hC3)
        · exact RwMid.same (by assumption) (by assumption) (fun _ hp => hp) (by assumption) hsub3 h13 h23 h33 hrow3 (Nat.le_succ_of_le hsz3) (open_none hC3)
      · intro s4 hM4
        apply RwMid.use hM4
        intro h4 tk4 so4 vs4 k4 R4 row4 F4 N4 hso4 hsub4 h14 h24 h34 hrow4 hsz4 hC4
        clear F3 N3 hso3 h13 h23 h33 hrow3 hsub3
        dsimp only
        k_steps
        · exact row_end (by assumption) loc_twice (by assumption) (fun _ hp => hp) (by assumption) hsub4 h14 h24 h34 g1 g2 g4 hrow4 .num hsz4 rfl hC4
        · exact row_endD (by assumption) loc_twice (by assumption) (by assumption) hsub4 h14 h24 h34 g1 g2 g4 hrow4 hsz4 hC4 (by assumption)
  · intro m₁ news₁ h tk hJ
    apply RowJ.use hJ
    intro u so vs k R' row hso hsub h1 h2 h3 hrow hsz hcase F2 N2
    (try clear F1); (try clear F7); (try clear N7); (try clear hR7)
    k_steps
    refine hret _ _ _ _ (by assumption) (News.swap2 (by assumption)) ⟨so, lr, vs, k, (lr, listOf vs k) :: R', row, rfl, hso, rfl, fun p hp => .tail _ (hsub p hp), allNe_consR h3 h1, .head _, hrow.mono fun _ _ x => x.mono fun _ hp => .tail _ hp, (hcase.resolve_left (rw_none hd0)).2, rw_len hrow.length hsz hd1⟩
local macro_rules | `(tactic| k_room) => sq [one "PySem.W.tacticKtr_room" "ktr_room"]
local macro_rules | `(tactic| k_units) => sq [one "PySem.W.tacticKtr_units" "ktr_units"]
/-- A Fixity of the program's. -/
noncomputable def FxIn (w : World) (R : Led) (a : Nat) (f : Fx) : Prop :=
  ∃ (d : Nat) (t1 t2 t3 t4 : Tok) (n : Nat), (a, instObj 131 d) ∈ R ∧ (d, dictOf [⟨PyData.keyHash w.params (Str.ofString "way"), .str (Str.ofString "way") t1, .str f.way.str t2⟩, ⟨PyData.keyHash w.params (Str.ofString "level"), .str (Str.ofString "level") t3, .int f.level t4⟩] n) ∈ R
theorem FxIn.use {w : World} {R : Led} {a : Nat} {f : Fx} {C : Prop} (h : FxIn w R a f) (k : ∀ (d : Nat) (t1 t2 t3 t4 : Tok) (n : Nat), (a, instObj 131 d) ∈ R → (d, dictOf [⟨PyData.keyHash w.params (Str.ofString "way"), .str (Str.ofString "way") t1, .str f.way.str t2⟩, ⟨PyData.keyHash w.params (Str.ofString "level"), .str (Str.ofString "level") t3, .int f.level t4⟩] n) ∈ R → C) : C := by
  obtain ⟨d, t1, t2, t3, t4, n, h1, h2⟩ := h
  exact k d t1 t2 t3 t4 n h1 h2
theorem FxIn.mono {w : World} {R R' : Led} {a : Nat} {f : Fx} (hs : ∀ p ∈ R, p ∈ R') (h : FxIn w R a f) : FxIn w R' a f := by
  obtain ⟨d, t1, t2, t3, t4, n, h1, h2⟩ := h
  exact ⟨d, t1, t2, t3, t4, n, hs _ h1, hs _ h2⟩
theorem bf1 {f1 f2 : Fx} (h : f2.level < f1.level) : decide (f2.level < f1.level) = first' f1 f2 := by simp [first', h]
theorem bf2 {f1 f2 : Fx} (h : f1.level = f2.level) : (f1.way.str == Str.ofString "left") = first' f1 f2 := by
  have := way_beq_side f1.way false
  simp only [Bool.false_eq_true, if_false, sideWay] at this
  rw [this]; by_cases hw : f1.way = .left <;> simp [first', h, hw]
theorem bf3 {f1 f2 : Fx} (h : ¬ f2.level < f1.level) (h2 : f1.level ≠ f2.level) : (f1.level == f2.level) = first' f1 f2 := by simp [first', h, h2]
set_option maxRecDepth 100000 in
set_option maxHeartbeats 8000000 in
theorem binds_ok (w : World) (R : Led) (a1 a2 : Nat) (f1 f2 : Fx) (h1 : FxIn w R a1 f1) (h2 : FxIn w R a2 f2) : Calls w 198 [.ref a1, .ref a2] 2 R (fun r led' => r = .bool (first' f1 f2) ∧ led' = R) := by
  unfold Calls
  intro p loose mean mg mb dp un gd cn cs a ccd cl outer A₀ base h₀ L m s Q E B F X N T hk hdp hun hret
  revert X; k_fill; intro X
  refine FxIn.use h1 fun d1 t11 t12 t13 t14 n1 hi1 hd1 => ?_
  refine FxIn.use h2 fun d2 t21 t22 t23 t24 n2 hi2 hd2 => ?_
  refine wpAny_call ?_
  k_dflt ktr_enter
  refine letA ?_
  intro Ak
  k_steps
  · exact hret _ _ _ _ (by assumption) (by assumption) ⟨congrArg Value.bool (bf1 (by assumption)), rfl⟩
  · exact hret _ _ _ _ (by assumption) (by assumption) ⟨congrArg Value.bool (bf2 (by assumption)), rfl⟩
  · exact hret _ _ _ _ (by assumption) (by assumption) ⟨congrArg Value.bool (bf3 (by assumption) (by assumption)), rfl⟩
/-- The exception's object, its place of the dict open. -/
abbrev excObj (t : Nat) (dd : Option Nat) : Obj := { cls := .ref 52, dict := dd, data := .fields #[.ref t, .none, .none, .none, .bool false, .none] }
noncomputable def excMro : List Value := [.ref 52, .ref 39, .type "Exception", .type "BaseException", .type "object"]
theorem excCls (w : World) : ∃ cd, clsIn (K39 w.params) 52 = some cd ∧ cd.mro = excMro ∧ cd.hasDict = true ∧ cd.hasDel = false := ⟨_, rfl, rfl, rfl, rfl⟩
theorem exc_mroIn (w : World) (v : Value) : mroIn (K39 w.params) 52 v = some (excMro.contains v) := by
  obtain ⟨cd, h1, h2, _⟩ := excCls w
  unfold mroIn; rw [h1, Option.bind_some, h2]; rfl
theorem exc_loop (self : Value) : refuseLoop self "__setattr__" excMro = pure () := by
  unfold excMro
  rw [refuseLoop_ref, refuseLoop_ref]; exact PySem.F.store_Exception.passes self
section
variable {prog : Program} {w : World} {A : Around} {R : Result → Shared → Prop} {s : Shared}
theorem exc_osa {x : Addr} {ox : Obj} {od : Option Obj} {name : Str} {tk : Tok} {v : Value} (X : (K39 w.params).In s.heap) (I : InstAt s.heap x ox 52 od) (ht : findIn (K39 w.params) (.ref 52) name = some none)
    (h : wpAny (model prog w) A.in1 (Builtin.ObjectAttr.storeInOwnDict (.ref x) (.ref 52) (.str name tk) name v false)
      (fun fin s' => match fin with | .done f => R (.ok f) s' | .again c' => c'.quiet = true ∧ codeAny (model prog w) A c' R s') (fun e s' => R (.error e) s') s) :
    codeAny (model prog w) A (.call (.builtin "object.__setattr__") ⟨[.ref x, .str name tk, v], []⟩) R s := by
  have SF := PySem.F.store_Exception
  obtain ⟨cd, hc, hmro, hd1, hd2⟩ := excCls w
  have sub : Looks (model prog w) s.heap (isInstance (.ref x) (.type "object")) true := I.type.andThen (looks_mroIn X (by rw [exc_mroIn]; rfl))
  refine codeAny_call_builtin SF.slot.plain SF.entry (@check_slot (model prog w) _ _ s "object.__setattr__" "object" "__setattr__" (.ref x) [.str name tk, v] [] _ SF.kind SF.split sub (SF.args (.ref x) (.str name tk) v) ?_)
  have hm : Looks (model prog w) s.heap (mroOf (.ref 52)) excMro := hmro ▸ (looks_clsIn X hc).andThen .now
  rw [osa_eq, refuse_eq]
  refine wpAny_bind (wpAny_bind (I.type.here (wpAny_bind (hm.here ?_))))
  rw [exc_loop]
  refine wpAny_pure (wpAny_bind (I.type.here (wpAny_bind ((looks_findIn X ht).here (wpAny_bind (wpAny_pure ?_))))))
  exact h
/-- The first attribute stored: the dict is made. -/
theorem exc_set_new {E : Value → Shared → Prop} {h₀ : Heap} {L : Addr} {m : Str → Option Value} {rest : Led} {x t : Nat} {name : Str} {v : Value} {Q : Unit → Shared → Prop}
    (F : Fr h₀ L s.heap m) (X₀ : (K39 w.params).In h₀) (N : News h₀ L s.heap ((x, excObj t none) :: rest)) (hx : ∀ p ∈ rest, @Ne Nat p.1 x)
    (ht : findIn (K39 w.params) (.ref 52) name = some none)
    (h : ∀ h' (d : Nat) od, Fr h₀ L h' m → News h₀ L h' ((d, od) :: (x, excObj t (some d)) :: rest) → @Ne Nat d x → (∀ p ∈ rest, @Ne Nat p.1 d) → (∃ tk, od = dictOf [⟨PyData.keyHash w.params name, .str name tk, v⟩] 1) → Q () { s with heap := h', toks := s.toks + 2 }) :
    wpAny (model prog w) A (setAttr (.ref x) name v) Q E s := by
  have X := X₀.keeps F.keep
  have I : InstAt s.heap x (excObj t none) 52 none := ⟨(N _ (.head _)).1, rfl, rfl, trivial⟩
  refine set_plain X I rfl (exc_osa (s := { s with toks := s.toks + 1 }) X I ht ?_)
  obtain ⟨cd, hc, hmro, hd1, hd2⟩ := excCls w
  obtain ⟨hp, g, dr, tk, os⟩ := s
  have hxe := (N _ (.head _)).1
  dsimp only at hxe
  have F1 := F.push emptyDict
  have N1 := News.push F N emptyDict
  have hne : @Ne Nat x hp.objs.size := Nat.ne_of_lt (Heap.lt_size hxe)
  have hrest : ∀ p ∈ rest, @Ne Nat p.1 hp.objs.size := fun p hp' => Nat.ne_of_lt (Heap.lt_size (N p (.tail _ hp')).1)
  obtain ⟨F2, N2⟩ := news_upd (pre := [(hp.objs.size, emptyDict)]) (post := rest) (f := fun o => { o with dict := some hp.objs.size }) F1 N1 (by intro p hp'; simp at hp'; subst hp'; exact hne.symm) hx (o' := excObj t (some hp.objs.size)) rfl rfl
  obtain ⟨F3, N3⟩ := news_upd (pre := []) (post := (x, excObj t (some hp.objs.size)) :: rest) (f := Obj.putName name (PyData.keyHash w.params name) (.str name (tk + 1)) v) F2 N2 (by intro p hp'; cases hp') (by intro p hp'; rcases List.mem_cons.mp hp' with rfl | hp'; exact hne; exact hrest p hp') (o' := dictOf [⟨PyData.keyHash w.params name, .str name (tk + 1), v⟩] 1) rfl rfl
  have D2 := (N2 _ (.head _)).1
  have D3 := (N3 _ (.head _)).1
  unfold Builtin.ObjectAttr.storeInOwnDict Builtin.ObjectAttr.ownDictForStores instanceDict
  refine wpAny_bind (wpAny_pure (wpAny_bind (wpAny_bind (wpAny_loadPart hxe (wpAny_bind (looks_clsIn X hc _ _ _ _ (fun _ _ z => z) ?_))))))
  rw [hd1]
  refine wpAny_bind (wpAny_alloc' (wpAny_bind (wpAny_update' (N1 (x, excObj t none) (.tail _ (.head _))).1 ?_)))
  refine wpAny_pure ?_
  dsimp only
  unfold Builtin.ObjectAttr.storeInDict Builtin.ObjectAttr.newKeyGuard
  refine wpAny_bind (wpAny_pure (wpAny_bind ?_))
  unfold nsSet
  refine wpAny_bind (wpAny_bind (wpAny_askSetting (wpAny_pure (wpAny_bind (wpAny_mkText (wpAny_bind (wpAny_loadPart D2 ?_)))))))
  dsimp only
  rw [aRefKeyMayBeTheName_at, if_neg (by simp)]
  dsimp only at D2 D3
  refine wpAny_updatePart' D2 ?_
  refine wpAny_bind (wpAny_lookBehind D3 (pastItsLine_dict (by show 1 ≤ _; rw [sizeLine_eq]; omega)) ?_)
  exact wpAny_pure (h _ _ _ F3 N3 hne.symm hrest ⟨_, rfl⟩)
/-- The second attribute stored. -/
theorem exc_set_old {E : Value → Shared → Prop} {h₀ : Heap} {L : Addr} {m : Str → Option Value} {rest : Led} {x t d : Nat} {name name1 : Str} {tk1 : Tok} {v v1 : Value} {hs : Int} {Q : Unit → Shared → Prop}
    (F : Fr h₀ L s.heap m) (X₀ : (K39 w.params).In h₀) (N : News h₀ L s.heap ((d, dictOf [⟨hs, .str name1 tk1, v1⟩] 1) :: (x, excObj t (some d)) :: rest)) (hxd : @Ne Nat d x) (hx : ∀ p ∈ rest, @Ne Nat p.1 d)
    (ht : findIn (K39 w.params) (.ref 52) name = some none) (hnn : (Value.str name1 tk1).isStr name = false)
    (h : ∀ h' od, Fr h₀ L h' m → News h₀ L h' ((d, od) :: (x, excObj t (some d)) :: rest) → Q () { s with heap := h', toks := s.toks + 2 }) :
    wpAny (model prog w) A (setAttr (.ref x) name v) Q E s := by
  have X := X₀.keeps F.keep
  have I : InstAt s.heap x (excObj t (some d)) 52 (some (dictOf [⟨hs, .str name1 tk1, v1⟩] 1)) := ⟨(N _ (.tail _ (.head _))).1, rfl, rfl, (N _ (.head _)).1⟩
  refine set_plain X I rfl (exc_osa (s := { s with toks := s.toks + 1 }) X I ht ?_)
  obtain ⟨cd, hc, hmro, hd1, hd2⟩ := excCls w
  obtain ⟨hp, g, dr, tk, os⟩ := s
  have hxe := (N _ (.tail _ (.head _))).1
  have D2 := (N _ (.head _)).1
  dsimp only at hxe D2
  have hput : Obj.putName name (PyData.keyHash w.params name) (.str name (tk + 1)) v (dictOf [⟨hs, .str name1 tk1, v1⟩] 1) = dictOf [⟨hs, .str name1 tk1, v1⟩, ⟨PyData.keyHash w.params name, .str name (tk + 1), v⟩] 2 := by
    rw [putName_dict]
    simp [putL, putN, hnn]
  obtain ⟨F3, N3⟩ := news_upd (pre := []) (post := (x, excObj t (some d)) :: rest) (f := Obj.putName name (PyData.keyHash w.params name) (.str name (tk + 1)) v) F N (by intro p hp'; cases hp') (by intro p hp'; rcases List.mem_cons.mp hp' with rfl | hp'; exact hxd.symm; exact hx p hp') hput rfl
  have D3 := (N3 _ (.head _)).1
  unfold Builtin.ObjectAttr.storeInOwnDict Builtin.ObjectAttr.ownDictForStores instanceDict
  refine wpAny_bind (wpAny_pure (wpAny_bind (wpAny_bind (wpAny_loadPart hxe (wpAny_bind (looks_clsIn X hc _ _ _ _ (fun _ _ z => z) ?_))))))
  rw [hd1]
  refine wpAny_pure (a := some d) ?_
  dsimp only
  unfold Builtin.ObjectAttr.storeInDict Builtin.ObjectAttr.newKeyGuard
  refine wpAny_bind (wpAny_pure (wpAny_bind ?_))
  unfold nsSet
  refine wpAny_bind (wpAny_bind (wpAny_askSetting (wpAny_pure (wpAny_bind (wpAny_mkText (wpAny_bind (wpAny_loadPart D2 ?_)))))))
  dsimp only
  rw [aRefKeyMayBeTheName_at, if_neg (by simp [DictEntry.refKey])]
  dsimp only at D3
  refine wpAny_updatePart' D2 ?_
  refine wpAny_bind (wpAny_lookBehind D3 (pastItsLine_dict (by show 2 ≤ _; rw [sizeLine_eq]; omega)) ?_)
  exact wpAny_pure (h _ _ F3 N3)
theorem exc52 (w : World) {h : Heap} (X : (K39 w.params).In h) : ∃ nm q N bs hdct sn sub ab col dd k0 k1 k2 k3 k5,
    h.get? 52 = some (excClassObj nm q 52 N bs [.ref 39, .type "Exception", .type "BaseException", .type "object"] hdct sn sub ab col dd k0 k1 k2 k3 k5 "Exception.__new__") :=
  ⟨_, _, _, _, _, _, _, _, _, _, _, _, _, _, _, X 52 _ rfl⟩
section
variable {M : Model} {A : Around} {E : Value → Shared → Prop} {h : Heap} {g : Array GenState} {d : Drawn} {t : Nat} {os : OsState}
variable {nm q : Str} {C N : Addr} {bs bm : List Value} {hdct : Bool} {sn : List Str} {sub : List Value} {ab : Bool} {col : Option Bool} {dd : Option Addr} {k0 k1 k2 k3 k5 : Option Value} {nid : String}
theorem exc_check {e : Addr} {oe : Obj} {rest : List Value} {Q : Unit → Shared → Prop} (hE : bm.contains (.type "Exception") = true)
    (hC : h.get? C = some (excClassObj nm q C N bs bm hdct sn sub ab col dd k0 k1 k2 k3 k5 nid)) (he : h.get? e = some oe) (hcls : oe.cls = .ref C) (hq : Q () ⟨h, g, d, t, os⟩) :
    wpAny M A (checkBuiltinCall "Exception.__init__" ⟨.ref e :: rest, []⟩) Q E ⟨h, g, d, t, os⟩ := by
  have F := PySem.F.excBase_Exception
  have hcB : (Value.ref C :: bm).contains (.type "Exception") = true := by rw [List.contains_cons, hE, Bool.or_true]
  have hshort := F.noStar
  simp only [checkBuiltinCall, F.initKind, F.initSplit, F.initRow]
  repeat (first | (with_reducible refine wpAny_loadPart_at he ?_; rw [hcls]) | with_reducible refine wpAny_loadPart_at hC ?_ | (with_reducible refine wpAny_isSubtype_exc hC ?_; rw [hcB]) | wp_step)
  refine wpAny_onRaise ?_
  rw [show ∀ (a b : String) (n : Nat), Bind.check ⟨.positional, "*", "Exception", .self, [⟨"args", .varPos, false⟩]⟩ a b n (List.map (fun x => x.fst) ({ pos := Value.ref e :: rest } : Args).kw) = pure () from
    fun a b n => check_star_args _ _ _ _ _ _]
  exact wpAny_pure hq
end
/-- Exception.__init__ upon the exception. -/
theorem exc_init {E : Value → Shared → Prop} {h₀ : Heap} {L : Addr} {m : Str → Option Value} {rest : Led} {x t : Nat} {v : Value} {Q : Value → Shared → Prop}
    (F : Fr h₀ L s.heap m) (X₀ : (K39 w.params).In h₀) (N : News h₀ L s.heap ((x, excObj t none) :: rest)) (hx : ∀ p ∈ rest, @Ne Nat p.1 x)
    (h : ∀ h' (t' : Nat), Fr h₀ L h' m → News h₀ L h' ((x, excObj t' none) :: rest) → Q .none { s with heap := h' }) :
    wpAny (model prog w) A (call (.builtin "Exception.__init__") [.ref x, v]) Q E s := by
  have FB := PySem.F.excBase_Exception
  have X := X₀.keeps F.keep
  have I : InstAt s.heap x (excObj t none) 52 none := ⟨(N _ (.head _)).1, rfl, rfl, trivial⟩
  obtain ⟨hp, g, dr, tk, os⟩ := s
  obtain ⟨nm, q, Nn, bs, hdct, sn, sub, ab, col, dd, k0, k1, k2, k3, k5, hC⟩ := exc52 w X
  refine wpAny_call (codeAny_call_builtin FB.init.plain FB.initEntry (exc_check (by decide) hC (N _ (.head _)).1 rfl ?_))
  have hxe := (N _ (.head _)).1
  dsimp only at hxe
  have F1 := F.push { cls := .type "tuple", data := .seq #[v] }
  have N1 := News.push F N { cls := .type "tuple", data := .seq #[v] }
  have hne : @Ne Nat x hp.objs.size := Nat.ne_of_lt (Heap.lt_size hxe)
  obtain ⟨F2, N2⟩ := news_upd (pre := [(hp.objs.size, { cls := .type "tuple", data := .seq #[v] })]) (post := rest) (f := Obj.mapFields (·.setIfInBounds 0 (.ref hp.objs.size))) F1 N1 (by intro p hp'; simp at hp'; subst hp'; exact hne.symm) hx (o' := excObj hp.objs.size none) rfl rfl
  wp_walk
  exact h _ _ F2 (News.sub N2 (by intro p hp'; exact .tail _ hp'))
section
variable {M : Model} {E : Value → Shared → Prop} {h : Heap} {g : Array GenState} {d : Drawn} {t : Nat} {os : OsState}
variable {nm q : Str} {C N : Addr} {bs bm : List Value} {hdct : Bool} {sn : List Str} {sub : List Value} {ab : Bool} {col : Option Bool} {dd : Option Addr} {k0 k1 k2 k3 k5 : Option Value}
theorem exc_check_new {rest : List Value} {Q : Unit → Shared → Prop} (hE : bm.contains (.type "Exception") = true) (hC : h.get? C = some (excClassObj nm q C N bs bm hdct sn sub ab col dd k0 k1 k2 k3 k5 "Exception.__new__"))
    (hq : Q () ⟨h, g, d, t, os⟩) : wpAny M A (checkBuiltinCall "Exception.__new__" ⟨.ref C :: rest, []⟩) Q E ⟨h, g, d, t, os⟩ := by
  have FB := PySem.F.excBase_Exception
  have hcont : (Value.ref C :: bm).contains (.type "Exception") = true := by rw [List.contains_cons, hE, Bool.or_true]
  have hstar := FB.noStar
  simp only [checkBuiltinCall, FB.newKind, FB.newSplit, FB.newRow]
  repeat (first | refine wpAny_loadPart_at hC ?_ | (refine wpAny_isSubtype_exc hC ?_; rw [hcont]) | refine wpAny_staticBase_exc hC ?_ | refine wpAny_madeBy_exc hC ?_ | simp only [bne_self_eq_false, Bool.false_eq_true, if_false] | wp_step)
  exact hq
theorem exc_code_new {R : Result → Shared → Prop} {rest : List Value} (hE : bm.contains (.type "Exception") = true) (hA : bm.contains (.type "AttributeError") = false) (hN : bm.contains (.type "NameError") = false) (hC : h.get? C = some (excClassObj nm q C N bs bm hdct sn sub ab col dd k0 k1 k2 k3 k5 "Exception.__new__"))
    (hq : R (.ok (.ret (.ref (h.objs.size + 1)))) ⟨(h.push { cls := .type "tuple", data := .seq rest.toArray }).push
      { cls := .ref C, data := .fields #[.ref h.objs.size, .none, .none, .none, .bool false, .none] }, g, d, t, os⟩) (hrest : rest.length ≤ sizeLine) :
    codeAny (model prog w) A (.builtin "Exception.__new__" ⟨.ref C :: rest, []⟩) R ⟨h, g, d, t, os⟩ := by
  have FB := PySem.F.excBase_Exception
  have hends := FB.ends
  have hcB : (Value.ref C :: bm).contains (.type "Exception") = true := by rw [List.contains_cons, hE, Bool.or_true]
  have hcA : (Value.ref C :: bm).contains (.type "AttributeError") = false := by rw [List.contains_cons, hA]; rfl
  have hcN : (Value.ref C :: bm).contains (.type "NameError") = false := by rw [List.contains_cons, hN]; rfl
  refine codeAny_builtinAt FB.entry ?_
  unfold Builtin.«BaseException.__new__»
  refine PySem.wpAt_bind ?_
  show PySem.wpAt _ _ _ (stack >>= _) _ _ _
  refine PySem.wpAt_bind (PySem.wpAt_stack fun p below => PySem.wpAt_of_wpAny ?_)
  wp_walk
  refine PySem.wpAt_of_wpAny ?_
  rw [FB.owner]
  repeat (first | with_reducible refine wpAny_madeHere_exc FB.canon hC ?_ | with_reducible refine wpAny_loadPart_at hC ?_ | (with_reducible refine wpAny_isSubtype_exc hC ?_; first | rw [hcB] | rw [hcA] | rw [hcN]) | wp_step)
  show R _ _
  rw [Heap.size_push]
  exact hq
end
/-- FixityError(..): the object is made and its __init__ called. -/
theorem exc_call {E : Value → Shared → Prop} {h₀ : Heap} {L : Addr} {m : Str → Option Value} {news : Led} {vs : List Value} {Q : Value → Shared → Prop}
    (F : Fr h₀ L s.heap m) (X₀ : (K39 w.params).In h₀) (N : News h₀ L s.heap news) (hvs : vs.length ≤ 8)
    (h : ∀ (x t : Nat) o h', Fr h₀ L h' m → News h₀ L h' ((x, excObj t none) :: (t, o) :: news) → (∀ p ∈ news, p.1 < t) → t < x →
      codeAny (model prog w) (A.under (.builtin "type.__call__" ⟨.ref 52 :: vs, []⟩)) (.call (.ref 36) ⟨.ref x :: vs, []⟩) (InitBack x fun r s' => match r with | .ok (.ret v) => Q v s' | .ok _ => False | .error e => E e s') { s with heap := h' }) :
    wpAny (model prog w) A (call (.ref 52) vs []) Q E s := by
  obtain ⟨hp, g, dr, tk, os⟩ := s
  have X := X₀.keeps F.keep
  obtain ⟨nm, q, Nn, bs, hdct, sn, sub, ab, col, dd, k0, k1, k2, k3, k5, hC⟩ := exc52 w X
  have f1 := tc_lookup
  have f2 := tc_bind (.ref 52)
  have hT : (⟨hp, g, dr, tk, os⟩ : Shared).TypeIs (.ref 52) "type" := ⟨_, hC, rfl⟩
  refine wpAny_call (codeAny_of_tree ?_)
  show wpAny _ _ (callAny (.ref 52) _) _ _ _
  repeat (any_goals (first | assumption | with_reducible refine wpAny_loadPart_at hC ?_ | wp_step))
  refine ⟨rfl, ?_⟩
  refine codeAny_call_builtin_at (Code.quiet_builtin _ (by decide +kernel)) entry_typeCall (wpAny_check_type_call_sub hC ?_)
  unfold Builtin.«type.__call__»
  repeat (first | with_reducible refine wpAny_loadPart_at hC ?_ | with_reducible refine wpAny_madeBy_exc hC ?_ | wp_step)
  refine codeAny_call_builtin_code (Code.quiet_builtin _ PySem.F.excBase_Exception.quiet) (exc_check_new (by decide) hC ?_)
  refine exc_code_new (by decide) (by decide) (by decide) hC ?_ (Nat.le_trans hvs (by rw [sizeLine_eq]; decide))
  show wpAny _ _ _ _ _ _
  generalize hH1 : (hp.push { cls := .type "tuple", dict := none, data := .seq vs.toArray }).push (excObj hp.objs.size none) = H1
  have F1 := (F.push { cls := .type "tuple", dict := none, data := .seq vs.toArray }).push (excObj hp.objs.size none)
  have N1 := (News.push F N { cls := .type "tuple", dict := none, data := .seq vs.toArray }).push (F.push _) (excObj hp.objs.size none)
  rw [Heap.size_push] at N1
  dsimp only at F1 N1
  rw [hH1] at F1 N1
  have X1 := X₀.keeps F1.keep
  have hx := (N1 _ (.head _)).1
  have t1 : Looks (model prog w) H1 (typeOf (.ref (hp.objs.size + 1))) (.ref 52) := (Looks.ld hx).andThen .now
  have s1 : Looks (model prog w) H1 (isSubtype (.ref 52) (.ref 52)) true := looks_mroIn X1 (by rw [exc_mroIn]; rfl)
  have i1 : Looks (model prog w) H1 (typeLookup (.ref 52) "__init__") (some (.ref 36)) := looks_findIn X1 rfl
  have b1 : Looks (model prog w) H1 (bindSpecial (.ref 36) (.ref (hp.objs.size + 1))) (.ref 36, [.ref (hp.objs.size + 1)]) := bind_fn X1 _ rfl
  show wpAny _ _ _ _ _ ⟨(hp.push { cls := .type "tuple", dict := none, data := .seq vs.toArray }).push (excObj hp.objs.size none), _, _, _, _⟩
  rw [hH1]
  have hz := h (hp.objs.size + 1) hp.objs.size _ H1 F1 N1 (fun p hp => Heap.lt_size (N p hp).1) (Nat.lt_succ_self _)
  unfold isInstance callSpecial? specialOf
  repeat (first | with_reducible refine wpAny_call ?_ | lk)
  refine codeAny_mono hz fun r s' z => ?_
  rcases r with e | (v | _ | _ | _) <;> first | exact z | exact z.elim | skip
  obtain ⟨rfl, z⟩ := z
  exact wpAny_pure (wpAny_pure z)
end
theorem RaisedN.sub {base : Heap} {l : List Env} {e : Addr} {cls : Value} {R R' : Led} {h : Heap} (x : RaisedN base l e cls R h) (hs : ∀ q ∈ R', q ∈ R) : RaisedN base l e cls R' h := by
  obtain ⟨B, a0, h1, h2, h3⟩ := x
  exact ⟨B, a0, h1, fun q hq => h2 q (hs q hq), h3⟩
theorem leave_exc {M : Model} {A : Around} {E : Value → Shared → Prop} {s' : Shared} {base g : Heap} {outer : List Env} {L a : Addr} {m : Str → Option Value} {name : Str} {scope : Scope} {cd : Value} {Q : Unit → Shared → Prop} {news R : Led} {e t : Nat} {dd : Option Nat}
    (K : Below A base outer g) (F : Fr g L s'.heap m) (N : News g L s'.heap news) (he : (e, excObj t dd) ∈ news) (hR : ∀ q ∈ R, q ∈ news) (hRe : ∀ q ∈ R, @Ne Nat q.1 e)
    (hQ : ∀ h', RaisedN base outer e (.ref 52) R h' → g.UpToSlots h' → Q () { s' with heap := h' }) (hk : scope.kind = .function := by rfl) :
    wpAny M (A.deeper (envOf name scope L a cd)) (leaving (envOf name scope L a cd) (.ref e)) Q E s' := by
  have K' := K.push (name := name) (a := a) (cd := cd) F hk
  generalize has : e :: (envOf name scope L a cd :: outer).filterMap (·.frame) = as
  have hin : ∀ env ∈ (envOf name scope L a cd :: outer), ∀ b, env.frame = some b → b ∈ as := fun env he b hb => by rw [← has]; exact .tail _ (List.mem_filterMap.mpr ⟨env, he, hb⟩)
  have ebase : base.get? e = none := fresh_of_stays K.stays (N _ he).2.2
  have nin : ∀ b, @Ne Nat b e → (∀ env ∈ (envOf name scope L a cd :: outer), env.frame ≠ some b) → b ∉ as := fun b h1 h2 hm => by
    rw [← has] at hm
    rcases List.mem_cons.mp hm with h | h
    · exact h1 h
    · obtain ⟨env, he', hf⟩ := List.mem_filterMap.mp h
      exact h2 env he' hf
  have st : base.StaysIn (hideAll s'.heap as) := fun b o q => hideAll_get _ (K'.stays b o q) (nin b (fun z => by rw [z, ebase] at q; cases q) fun env he' hf => by
    rw [(K'.frames.mem (List.mem_filterMap.mpr ⟨env, he', hf⟩)).1] at q; cases q)
  have hl : ∀ q ∈ R, (hideAll s'.heap as).get? q.1 = some q.2 ∧ base.get? q.1 = none := fun q hq => by
    refine ⟨hideAll_get _ (N q (hR q hq)).1 (nin q.1 (hRe q hq) fun env he' hf => ?_), fresh_of_stays K.stays (N q (hR q hq)).2.2⟩
    rcases List.mem_cons.mp he' with rfl | he'
    · exact (N q (hR q hq)).2.1 (Option.some.inj hf).symm
    · obtain ⟨o, ho, _⟩ := (K.frames.mem (List.mem_filterMap.mpr ⟨env, he', hf⟩)).2
      rw [(N q (hR q hq)).2.2] at ho; cases ho
  have hen : (hideAll s'.heap as).get? e = none := hideAll_none _ (by rw [← has]; exact .head _)
  refine wpAny_leaving_firstW (a0 := .ref t) K'.stack (funFrames_hide K'.frames hin) rfl (N _ he).1 (fun b o hb => of_hideAll _ hb) hen rfl rfl rfl fun h' hL => ?_
  obtain ⟨k1, ⟨_, _, k2⟩, k3, k4⟩ := hL
  exact hQ h' ⟨_, .ref t, st, hl, k1, hen, k2, k3⟩ ((Heap.UpToSlots.of_keeps F.keep).trans k4)
noncomputable def RaiseEnd (w : World) (E : Value → Shared → Prop) (v : Value) (s₁ : Shared) : Prop :=
  ∃ (e t : Nat) (dd : Option Nat), v = .ref e ∧ (K39 w.params).In s₁.heap ∧ s₁.heap.get? e = some (excObj t dd) ∧ E (.ref e) s₁
theorem raise_obj {prog : Program} {w : World} {A : Around} {E : Value → Shared → Prop} {s : Shared} {env : Env} {x : Sem Value} {Q : Flow → Shared → Prop} (hh : A.handled = none) (h : wpAny (model prog w) A x (RaiseEnd w E) E s) :
    wpAny (model prog w) A (raiseStmt env (some x) none) Q E s := by
  unfold raiseStmt
  refine wpAny_bind (wpAny_mono h (fun v s₁ h₁ => ?_) fun _ _ x => x)
  obtain ⟨e, t, dd, rfl, X, he, hE⟩ := h₁
  obtain ⟨nm, q, Nn, bs, hdct, sn, sub, ab, col, dd', k0, k1, k2, k3, k5, hC⟩ := exc52 w X
  have hcB : ([Value.ref 52, .ref 39, .type "Exception", .type "BaseException", .type "object"]).contains (.type "BaseException") = true := by decide
  obtain ⟨hp, g, d, tk, os⟩ := s₁
  repeat (first | with_reducible refine wpAny_loadPart_at he ?_ | with_reducible refine wpAny_loadPart_at hC ?_ | (with_reducible refine wpAny_isSubtype_exc hC ?_; rw [hcB]) | wp_step)
  exact wpAny_raiseNew_none hh hE
theorem raise_line {prog : Program} {w : World} {A : Around} {E : Value → Shared → Prop} {s : Shared} {env : Env} {x : Str} {np cpos pos : Pos} {args : List Expr} {Q : Flow → Shared → Prop} (hh : A.handled = none)
    (h : wpAny (model prog w) A (eval (.Call (.Name x np) args [] cpos) env) (RaiseEnd w E) E s) :
    wpAny (model prog w) A (exec (.Raise (some (.Call (.Name x np) args [] cpos)) none pos) env) Q E s := by
  rw [arm_exec_Raise]
  exact wpAny_bind (wpAny_standAt (raise_obj hh (wpAny_bind (wpAny_mono h (fun v s₃ h₃ => wpAny_bind (wpAny_standAt (wpAny_pure h₃))) fun _ _ x => x))))
/-- A call that may end by a FixityError: then `R` stands as it was and `EP` holds. -/
noncomputable def CallsE (w : World) (f : Addr) (vs : List Value) (size : Nat) (led : Led) (Post : Value → Led → Prop) (R : Led) (EP : Prop) : Prop :=
  ∀ (p : Program) (loose : List Str) (mean : ExcName → Option Value) (mg mb : Str → Option Value) (dp un : Nat) (gd : Option (List Code)) (cn : Str) (cs : Scope) (a : Addr) (ccd : Value) (cl : List (Str × Addr)) (outer : List Env) (A₀ : Around) (base h₀ : Heap) (L : Addr) (m : Str → Option Value) (s : Shared)
    (Q E : Value → Shared → Prop),
    Below A₀ base outer h₀ → Fr h₀ L s.heap m → (K39 w.params).In h₀ → News h₀ L s.heap led → Top p loose mean mg mb h₀ → cs.kind = .function → dp + size < 900 → un + 8 * size < 9000 →
    (∀ r led' h' tk', Fr h₀ L h' m → News h₀ L h' led' → Post r led' → Q r { s with heap := h', toks := tk' }) →
    (∀ (e : Nat) g h' tk', Fr h₀ L g m → g.UpToSlots h' → RaisedN base (envX cn cs L a ccd cl :: outer) e (.ref 52) R h' → EP → E (.ref e) { s with heap := h', toks := tk' }) →
    wpAny (model PySem.Challenge.rw_og0006_01.row.prog w) (ktrTop dp un gd cn cs L a ccd cl outer) (call (.ref f) vs) Q E s
theorem CallsE.use {w : World} {f : Addr} {vs : List Value} {size : Nat} {led R : Led} {EP : Prop} {Post : Value → Led → Prop} {p : Program} {loose : List Str} {mean : ExcName → Option Value} {mg mb : Str → Option Value} {dp un : Nat} {gd : Option (List Code)} {cn : Str} {cs : Scope} {a : Addr} {ccd : Value} {cl : List (Str × Addr)} {outer : List Env} {A₀ : Around} {base h₀ : Heap} {L : Addr} {m : Str → Option Value} {s : Shared}
    {Q E : Value → Shared → Prop} (C : CallsE w f vs size led Post R EP)
    (B : Below A₀ base outer h₀) (F : Fr h₀ L s.heap m) (X : (K39 w.params).In h₀) (N : News h₀ L s.heap led) (T : Top p loose mean mg mb h₀) (hk : cs.kind = .function) (hdp : dp + size < 900) (hun : un + 8 * size < 9000)
    (ret : ∀ r led' h' tk', Fr h₀ L h' m → News h₀ L h' led' → Post r led' → Q r { s with heap := h', toks := tk' })
    (rse : ∀ (e : Nat) g h' tk', Fr h₀ L g m → g.UpToSlots h' → RaisedN base (envX cn cs L a ccd cl :: outer) e (.ref 52) R h' → EP → E (.ref e) { s with heap := h', toks := tk' }) :
    wpAny (model PySem.Challenge.rw_og0006_01.row.prog w) (ktrTop dp un gd cn cs L a ccd cl outer) (call (.ref f) vs) Q E s :=
  C p loose mean mg mb dp un gd cn cs a ccd cl outer A₀ base h₀ L m s Q E B F X N T hk hdp hun ret rse
theorem allNe_lt {t x : Nat} {R : Led} (h : AllLt t R) (h2 : t < x) : ∀ p ∈ R, @Ne Nat p.1 x := fun p hp => Nat.ne_of_lt (Nat.lt_trans (tb_ltOf h p hp) h2)
theorem allNe_le {t : Nat} {R : Led} (h : AllLt t R) : ∀ p ∈ R, @Ne Nat p.1 t := fun p hp => Nat.ne_of_lt (tb_ltOf h p hp)
theorem allNe_le' {t : Nat} {R : Led} (h : ∀ p ∈ R, p.1 < t) : ∀ p ∈ R, @Ne Nat p.1 t := fun p hp => Nat.ne_of_lt (h p hp)
theorem allNe_lt' {t x : Nat} {R : Led} (h : ∀ p ∈ R, p.1 < t) (h2 : t < x) : ∀ p ∈ R, @Ne Nat p.1 x := fun p hp => Nat.ne_of_lt (Nat.lt_trans (h p hp) h2)
local macro_rules | `(tactic| k_all) => sq [orT (rd asm :: orR "allNe_le allNe_le'" "H" ++ orR "allNe_lt allNe_lt'" "HH")]
theorem meta_Exception : typeOf (.type "Exception") = pure (.type "type") := by kernel_rfl
set_option maxRecDepth 100000 in
theorem exc_method {prog : Program} {w : World} {A : Around} {E : Value → Shared → Prop} {s : Shared} {h₀ : Heap} {L : Addr} {m : Str → Option Value} {pl : Sem Bool} {Q : Value × List Value → Shared → Prop} (F : Fr h₀ L s.heap m) (X₀ : (K39 w.params).In h₀) (h : Q (.builtin "Exception.__init__", []) { s with toks := s.toks + 1 }) :
    wpAny (model prog w) A (getMethod (.type "Exception") (Str.ofString "__init__") pl) Q E s :=
  method_type F X₀ meta_Exception (by decide +kernel) (by rfl) (by decide +kernel) h
local macro_rules | `(tactic| walk_at "getMethod type:Exception") => sq [kh, dk (ru "exc_method" "aa_")]
local macro_rules | `(tactic| walk_at "exec Raise some none") => sq [kh, atT "exec ( Stmt.Raise ( some ( Expr.Call ( Expr.Name \"FixityError\" _ ) _ List.nil _ ) ) none _ ) _", dk (ru "raise_line" "f_"), kw "fold"]
local macro_rules | `(tactic| walk_at "call builtin:Exception.__init__") => sq [kh, dk (ru "exc_init" "aaak_"), tl "h' t' F' N'" "s"]
local macro_rules | `(tactic| walk_at "setAttr ref") => sq [kh, dk (ru "exc_set_new" "aaakr_"), intros "h' d' od' F' N' n1' n2' e'", ap "ex1_1 %e'", intros "tk' e9'", sb "e9'", tr (kw "sweep")]
local macro_rules | `(tactic| walk_at "setAttr ref") => sq [kh, dk (ru "exc_set_old" "aaahhrr_"), tl "h' od' F' N'" "s"]
local macro_rules | `(tactic| walk_at "RaiseEnd") => `(tactic| (k_dflt (refine' ⟨_, _, _, rfl, ?X, ?N, ?_⟩; (case N => exact News.get (by k_asm) (by k_mem)); (case X => k_in))))
noncomputable def Frozen (_R : Led) : Prop := True
theorem allNe_sub {R R' : Led} {x : Nat} (s : ∀ p ∈ R, p ∈ R') (a : ∀ p ∈ R', @Ne Nat p.1 x) : ∀ p ∈ R, @Ne Nat p.1 x := fun p hp => a p (s p hp)
theorem leave_excF {M : Model} {A : Around} {E : Value → Shared → Prop} {s' : Shared} {base g : Heap} {outer : List Env} {L a : Addr} {m : Str → Option Value} {name : Str} {scope : Scope} {cd : Value} {Q : Unit → Shared → Prop} {news R : Led} {e t : Nat} {dd : Option Nat}
    (_fz : Frozen R) (K : Below A base outer g) (F : Fr g L s'.heap m) (N : News g L s'.heap news) (he : (e, excObj t dd) ∈ news) (hR : ∀ q ∈ R, q ∈ news) (hRe : ∀ q ∈ R, @Ne Nat q.1 e)
    (hQ : ∀ h', RaisedN base outer e (.ref 52) R h' → g.UpToSlots h' → Q () { s' with heap := h' }) (hk : scope.kind = .function := by rfl) :
    wpAny M (A.deeper (envOf name scope L a cd)) (leaving (envOf name scope L a cd) (.ref e)) Q E s' := leave_exc K F N he hR hRe hQ hk
local macro_rules | `(tactic| walk_at "leaving ref") => sq [kh, dk (ru "leave_excF" "HhaamMY_r"), intros "h9 R9 U9"]
local macro_rules | `(tactic| walk_at "leaving ref") => sq [kh, dk (ru "leave_onN" "hhhh_" "" [0, 3, 1]), intros "h9 R9 U9"]
theorem sub_exc {a b c : Addr × Obj} {R : Led} : ∀ p ∈ b :: R, p ∈ a :: b :: c :: R := fun _ hp => (List.mem_cons.mp hp).elim (fun e => e ▸ .tail _ (.head _)) fun hp => .tail _ (.tail _ (.tail _ hp))
set_option maxRecDepth 100000 in
set_option maxHeartbeats 8000000 in
theorem mk_exc (w : World) (R : Led) (msg : Str) (t1 : Tok) (v : Value) : Calls w 52 [.str msg t1, v] 3 R (fun r led' => ∃ (e t : Nat) (dd : Option Nat), r = .ref e ∧ led' = (e, excObj t dd) :: R ∧ ∀ q ∈ R, @LT.lt Nat _ q.1 e) := by
  unfold Calls
  intro p loose mean mg mb dp un gd cn cs a ccd cl outer A₀ base h₀ L m s Q E B F X N T hk hdp hun hret
  revert X; k_fill; intro X
  k_dflt (refine' exc_call ?F ?X ?N ?z ?_; (case F => k_asm); (case X => k_asm); (case N => k_asm); (case z => exact Nat.le_of_ble_eq_true rfl); intro x' t' o' h' F' N' l1 l2; (try k_lt l1); (try k_lt2 l2); (try k_sweep); (refine' code_def ?k1 ?k2 ?k3 ?k4 ?k5 ?kA ?kF ?kK ?k6 ?k7 ?k8 ?k9 ?kB ?_ ?c2 ?c3 ?c4 ?c5; (case kA => exact rfl); (case kF => exact rfl); (case kK => assumption); (case k1 => k_asm); (case k2 => k_asm); (case k3 => k_asm); (case k4 => k_asm); (case k5 => k_asm); (case k6 => k_is); (case k7 => k_is); (case k8 => ktr_room); (case k9 => first | exact BindsTo.of_eq rfl | exact binds_K (by k_in) rfl (by k_is) rfl rfl rfl); (case c5 => decide); (case kB => exact locs rfl); (case c2 => exact rfl); (case c3 => exact rfl); (case c4 => exact rfl); k_whole; intro g' L' h' FG' F' N' B' X' T'; (try dsimp only); (try k_fold)))
  k_steps
  exact hret _ _ _ _ (by assumption) (News.sub (by assumption) sub_exc) ⟨_, _, _, rfl, rfl, fun q hq => Nat.lt_trans (l1 q hq) l2⟩
theorem exc_use {w : World} {led : Led} {msg : Str} {t1 : Tok} {v : Value} {p : Program} {loose : List Str} {mean : ExcName → Option Value} {mg mb : Str → Option Value} {dp un : Nat} {gd : Option (List Code)} {cn : Str} {cs : Scope} {a : Addr} {ccd : Value} {cl : List (Str × Addr)} {outer : List Env} {A₀ : Around} {base h₀ : Heap} {L : Addr} {m : Str → Option Value} {s : Shared} {Q E : Value → Shared → Prop}
    (B : Below A₀ base outer h₀) (F : Fr h₀ L s.heap m) (X : (K39 w.params).In h₀) (N : News h₀ L s.heap led) (T : Top p loose mean mg mb h₀) (hk : cs.kind = .function) (hdp : dp + 3 < 900) (hun : un + 8 * 3 < 9000)
    (ret : ∀ (e t : Nat) (dd : Option Nat) h' tk', Fr h₀ L h' m → News h₀ L h' ((e, excObj t dd) :: led) → (∀ q ∈ led, q.1 < e) → Q (.ref e) { s with heap := h', toks := tk' }) :
    wpAny (model PySem.Challenge.rw_og0006_01.row.prog w) (ktrTop dp un gd cn cs L a ccd cl outer) (call (.ref 52) [.str msg t1, v]) Q E s :=
  Calls.use (mk_exc w led msg t1 v) B F X N T hk hdp hun fun _ _ h' tk' F' N' ⟨e, t, dd, e1, e2, l⟩ => by
    subst e1; subst e2; exact ret e t dd h' tk' F' N' l
local macro_rules | `(tactic| walk_at "call ref") => sq [atCall "52", dk (ru "exc_use" "aahaaeDu_"), tl "e' t' dd' h' tk' F' N' l1" "s"]
theorem lt_all {led : Led} {e : Nat} {q : Addr × Obj} (h : ∀ p ∈ led, p.1 < e) (hq : q ∈ led) : @Ne Nat q.1 e := Nat.ne_of_lt (h q hq)
local macro_rules | `(tactic| k_all) => sq [orT [rd asm, ru "allNe_le'" "H", seqT [intros "q hq", ru "lt_all" "Hm"]]]
theorem way_ne {a b : Way} : (a.str != b.str) = !decide (a = b) := by cases a <;> cases b <;> decide
theorem way_none {a : Way} : (a.str == Str.ofString "none") = decide (a = .none) := by cases a <;> decide
theorem clash_of1 {f1 f2 : Fx} (h : f1.level = f2.level) (h2 : (f1.way.str != f2.way.str) = true) : clash f1 f2 = true := by
  rw [way_ne] at h2; simp [clash, h]; left; simpa using h2
theorem clash_of2 {f1 f2 : Fx} (h : f1.level = f2.level) (h2 : (f1.way.str != f2.way.str) = false) (h3 : (f1.way.str == Str.ofString "none") = true) : clash f1 f2 = true := by
  rw [way_none] at h3; simp [clash, h]; right; simpa using h3
theorem clash_of3 {f1 f2 : Fx} (h : f1.level = f2.level) (h2 : (f1.way.str != f2.way.str) = false) (h3 : (f1.way.str == Str.ofString "none") = false) : clash f1 f2 = false := by
  rw [way_ne] at h2; rw [way_none] at h3; simp only [Bool.not_eq_false', decide_eq_true_eq, decide_eq_false_iff_not] at h2 h3
  rw [h2] at h3
  simp [clash, h2, h3]
theorem clash_of4 {f1 f2 : Fx} (h : f1.level ≠ f2.level) : clash f1 f2 = false := by simp [clash, h]
set_option maxRecDepth 100000 in
set_option maxHeartbeats 8000000 in
theorem check_ok (w : World) (R : Led) (a1 a2 : Nat) (f1 f2 : Fx) (v : Value) (h1 : FxIn w R a1 f1) (h2 : FxIn w R a2 f2) : CallsE w 191 [.ref a1, .ref a2, v] 6 R (fun r led' => clash f1 f2 = false ∧ r = .none ∧ led' = R) R (clash f1 f2 = true) := by
  unfold CallsE
  intro p loose mean mg mb dp un gd cn cs a ccd cl outer A₀ base h₀ L m s Q E B F X N T hk hdp hun hret hrse
  revert X; k_fill; intro X
  refine FxIn.use h1 fun d1 t11 t12 t13 t14 n1 hi1 hd1 => ?_
  refine FxIn.use h2 fun d2 t21 t22 t23 t24 n2 hi2 hd2 => ?_
  refine wpAny_call ?_
  k_dflt ktr_enter
  refine letA ?_
  intro Ak
  have fz : Frozen R := trivial
  k_steps
  · exact hrse _ _ _ _ (by assumption) (by assumption) (by assumption) (clash_of1 (by assumption) (by assumption))
  · exact hrse _ _ _ _ (by assumption) (by assumption) (by assumption) (clash_of2 (by assumption) (by assumption) (by assumption))
  · exact hret _ _ _ _ (by assumption) (by assumption) ⟨clash_of3 (by assumption) (by assumption) (by assumption), rfl, rfl⟩
  · exact hret _ _ _ _ (by assumption) (by assumption) ⟨clash_of4 (by assumption), rfl, rfl⟩
theorem kdS_get {prog : Program} {w : World} {A : Around} {E : Value → Shared → Prop} {s : Shared} {h₀ : Heap} {L d : Addr} {news : Led} {o : Obj} {kvs : List (Str × Value)} {pl : Sem Bool} {Q : Value × List Value → Shared → Prop} (N : News h₀ L s.heap news) (hp : (d, o) ∈ news) (hd : o.IsDictOf (PySem.strKind prog w) kvs) (h : Q (.builtin "dict.get", [.ref d]) s) : wpAny (model prog w) A (getMethod (.ref d) "get" pl) Q E s := kdg_method N hp hd h
local macro_rules | `(tactic| walk_at "getMethod ref") => sq [atMeth "\"get\"", dk (ru "kdS_get" "amh_")]
section
variable {prog : Program} {w : World} {A : Around} {E : Value → Shared → Prop} {s : Shared} {h₀ : Heap} {L d : Addr} {news : Led} {o : Obj} {kvs : List (Str × Value)} {k : Str} {t : Tok} {v : Value}
theorem get_some {Q : Value → Shared → Prop} (N : News h₀ L s.heap news) (hp : (d, o) ∈ news) (hd : o.IsDictOf (PySem.strKind prog w) kvs) (lo : (d == sysModules) = false) (hl : valueAt kvs k = some v) (h : Q v { s with toks := s.toks + 1 }) :
    wpAny (model prog w) A (call (.builtin "dict.get") [.ref d, .str k t]) Q E s := kdg_get1 N hp hd lo (strKind_is _ _ _ _) (some v) hl h
theorem get_none {Q : Value → Shared → Prop} (N : News h₀ L s.heap news) (hp : (d, o) ∈ news) (hd : o.IsDictOf (PySem.strKind prog w) kvs) (lo : (d == sysModules) = false) (hl : valueAt kvs k = none) (h : Q .none { s with toks := s.toks + 1 }) :
    wpAny (model prog w) A (call (.builtin "dict.get") [.ref d, .str k t]) Q E s := kdg_get1 N hp hd lo (strKind_is _ _ _ _) none hl h
end
local macro_rules | `(tactic| walk_at "call builtin:dict.get") => sq [dk (ru "get_some" "amhhh_")]
local macro_rules | `(tactic| walk_at "call builtin:dict.get") => sq [dk (ru "get_none" "amhhh_")]
/-- The table that the law hands to the program. -/
noncomputable def KnIn (w : World) (R : Led) (kvs : List (Str × Value)) (lv : Lv) : Prop := ∀ o, (o = .plusC ∨ o = .timesC ∨ o = .eqC → ∃ a : Nat, valueAt kvs o.str = some (.ref a) ∧ FxIn w R a (lv o)) ∧ (o = .colon ∨ o = .plus → valueAt kvs o.str = none)
theorem op_colon {o : Op} : (Op.str o == Str.ofString ":") = decide (o = .colon) := by cases o <;> decide
noncomputable def Above (New Rt : Led) : Prop := ∀ p ∈ New, ∀ z ∈ Rt, @LT.lt Nat _ z.1 p.1
theorem above1 {x d : Nat} {ox od : Obj} {Rt : Led} (l1 : ∀ p ∈ Rt, @LT.lt Nat _ p.1 d) (l3 : @LT.lt Nat _ d x) : Above [(x, ox), (d, od)] Rt := by
  intro p hp z hz
  cases hp with
  | head => exact Nat.lt_trans (l1 z hz) l3
  | tail _ hp => cases hp with
    | head => exact l1 z hz
    | tail _ hp => cases hp
theorem opPost {P : Led → Nat → Prop} {R : Led} {r : Value} {led' : Led} {C : Value → Led → Prop} (h : ∃ (a : Nat) (New : Led), r = .ref a ∧ led' = New ++ R ∧ Above New R ∧ P New a) (k : ∀ (a : Nat) (New : Led), Above New R → P New a → C (.ref a) (New ++ R)) : C r led' := by
  obtain ⟨a, New, rfl, rfl, hA, h⟩ := h
  exact k a New hA h
set_option maxRecDepth 100000 in
set_option maxHeartbeats 8000000 in
theorem mk_fx (w : World) (Rt : Led) (f : Fx) (t1 t2 : Tok) : Calls w 131 [.str f.way.str t1, .int f.level t2] 4 Rt (fun r led' => ∃ (a : Nat) (New : Led), r = .ref a ∧ led' = New ++ Rt ∧ Above New Rt ∧ FxIn w New a f) := by
  unfold Calls
  intro p loose mean mg mb dp un gd cn cs a ccd cl outer A₀ base h₀ L m s Q E B F X N T hk hdp hun hret
  revert X; k_fill; intro X
  k_dflt (refine' call_cls ?k1 ?k2 ?k3 ?k4 ?k5 ?k6 ?_; (case k1 => k_asm); (case k2 => k_asm); (case k3 => k_asm); (case k4 => k_is); (case k5 => k_is); (case k6 => k_is); k_whole; intro x' d' h' F' N' l1 l2; (try k_lt l1); (try k_lt2 l2); (try k_sweep); (refine' code_def ?k1 ?k2 ?k3 ?k4 ?k5 ?kA ?kF ?kK ?k6 ?k7 ?k8 ?k9 ?kB ?_ ?c2 ?c3 ?c4 ?c5; (case kA => exact rfl); (case kF => exact rfl); (case kK => assumption); (case k1 => k_asm); (case k2 => k_asm); (case k3 => k_asm); (case k4 => k_asm); (case k5 => k_asm); (case k6 => k_is); (case k7 => k_is); (case k8 => ktr_room); (case k9 => first | exact BindsTo.of_eq rfl | exact binds_K (by k_in) rfl (by k_is) rfl rfl rfl); (case c5 => decide); (case kB => exact locs rfl); (case c2 => exact rfl); (case c3 => exact rfl); (case c4 => exact rfl); k_whole; intro g' L' h' FG' F' N' B' X' T'; (try dsimp only); (try k_fold)))
  refine letA ?_
  intro Ak
  k_steps
  exact hret _ _ _ _ (by assumption) (by assumption) ⟨_, [_, _], rfl, rfl, above1 (by assumption) (by assumption), _, _, _, _, _, _, .head _, .tail _ (.head _)⟩
set_option maxRecDepth 100000 in
set_option maxHeartbeats 8000000 in
theorem fixity_ok (w : World) (R Rt : Led) (hs : ∀ p ∈ R, p ∈ Rt) (d : Nat) (od : Obj) (kvs : List (Str × Value)) (lv : Lv) (o : Op) (t : Tok) (hd : (d, od) ∈ R) (hD : od.IsDictOf (PySem.strKind PySem.Challenge.rw_og0006_01.row.prog w) kvs) (hK : KnIn w R kvs lv) (hB : LvOk lv) (hlo : (d == sysModules) = false) (ho : o ≠ .minus) :
    Calls w 163 [.ref d, .str o.str t] 6 Rt (fun r led' => ∃ (a : Nat) (New : Led), r = .ref a ∧ led' = New ++ Rt ∧ Above New Rt ∧ FxIn w (New ++ R) a (lv o)) := by
  unfold Calls
  intro p loose mean mg mb dp un gd cn cs a ccd cl outer A₀ base h₀ L m s Q E B F X N T hk hdp hun hret
  revert X; k_fill; intro X
  have hk1 := (hK o).1
  have hk2 := (hK o).2
  refine wpAny_call ?_
  by_cases hc : o = .plusC ∨ o = .timesC ∨ o = .eqC
  · obtain ⟨af, hv, hf⟩ := hk1 hc
    clear hk1 hk2 hK
    k_dflt ktr_enter
    refine letA ?_
    intro Ak
    k_steps
    exact hret _ _ _ _ (by assumption) (by assumption) ⟨af, [], rfl, rfl, fun p hp => by (cases hp), hf⟩
  · have hv := hk2 (by cases o <;> simp_all)
    clear hk1 hk2 hK
    k_dflt ktr_enter
    refine letA ?_
    intro Ak
    have mc131 : MarkC 131 := trivial
    k_steps
    · have ho : o = .colon := by simpa only [op_colon, decide_eq_true_eq] using (show (o.str == Str.ofString ":") = true by assumption)
      unfold Stop
      rename News _ _ _ _ => N9
      rename Fr _ _ _ _ => F9
      refine Calls.use (mk_fx w Rt ⟨.right, 5⟩ _ _) (by k_asm) F9 (by k_asm) N9 (by k_asm) ?_ ?_ ?_ ?_
      · exact rfl
      · ktr_room
      · ktr_units
      clear F9 N9
      intro r9 l9 h' tk' F' N' P9
      revert N'
      apply opPost P9
      intro fa New hA hF0 N'
      k_steps
      exact hret _ _ _ _ (by assumption) (by assumption) ⟨fa, New, rfl, rfl, hA, by rw [ho, hB.colon]; exact hF0.mono fun p hp => List.mem_append.mpr (.inl hp)⟩
    · have ho' : o ≠ .colon := by simpa only [op_colon, decide_eq_false_iff_not] using (show (o.str == Str.ofString ":") = false by assumption)
      have ho : o = .plus := by cases o <;> simp_all
      unfold Stop
      rename News _ _ _ _ => N9
      rename Fr _ _ _ _ => F9
      refine Calls.use (mk_fx w Rt ⟨.left, 9⟩ _ _) (by k_asm) F9 (by k_asm) N9 (by k_asm) ?_ ?_ ?_ ?_
      · exact rfl
      · ktr_room
      · ktr_units
      clear F9 N9
      intro r9 l9 h' tk' F' N' P9
      revert N'
      apply opPost P9
      intro fa New hA hF0 N'
      k_steps
      exact hret _ _ _ _ (by assumption) (by assumption) ⟨fa, New, rfl, rfl, hA, by rw [ho, hB.plus]; exact hF0.mono fun p hp => List.mem_append.mpr (.inl hp)⟩
abbrev ent (w : World) (k : String) (t : Tok) (v : Value) : DictEntry := ⟨PyData.keyHash w.params (Str.ofString k), .str (Str.ofString k) t, v⟩
/-- An operator's item. -/
noncomputable def OpIn (w : World) (R : Led) (a : Nat) (o : Op) : Prop :=
  ∃ (d : Nat) (t1 t2 t3 t4 : Tok) (n : Nat), (a, instObj 112 d) ∈ R ∧ (d, dictOf [ent w "place" t1 .none, ent w "name" t2 (.str o.str t3), ent w "is_con" t4 (.bool (o != .plus && o != .minus))] n) ∈ R
theorem OpIn.use {w : World} {R : Led} {a : Nat} {o : Op} {C : Prop} (h : OpIn w R a o) (k : ∀ (d : Nat) (t1 t2 t3 t4 : Tok) (n : Nat), (a, instObj 112 d) ∈ R → (d, dictOf [ent w "place" t1 .none, ent w "name" t2 (.str o.str t3), ent w "is_con" t4 (.bool (o != .plus && o != .minus))] n) ∈ R → C) : C := by
  obtain ⟨d, t1, t2, t3, t4, n, h1, h2⟩ := h
  exact k d t1 t2 t3 t4 n h1 h2
inductive NodeIn (w : World) (R : Led) : Value → Pt → Prop
  | var {a d n : Nat} {t1 t2 t3 : Tok} : (a, instObj 307 d) ∈ R → (d, dictOf [ent w "place" t1 .none, ent w "name" t2 (.str (Str.ofString "x") t3)] n) ∈ R → NodeIn w R (.ref a) .var
  | lit {a d n : Nat} {t1 t2 t3 t4 t5 : Tok} {k : Int} : (a, instObj 334 d) ∈ R → (d, dictOf [ent w "place" t1 .none, ent w "kind" t2 (.str (Str.ofString "int") t3), ent w "value" t4 (.int k t5)] n) ∈ R → NodeIn w R (.ref a) (.lit k)
  | con {a d n al n2 : Nat} {t1 t2 t3 t4 : Tok} {o : Op} {v1 v2 : Value} {l r : Pt} : (a, instObj 361 d) ∈ R → (d, dictOf [ent w "place" t1 .none, ent w "name" t2 (.str o.str t3), ent w "args" t4 (.ref al)] n) ∈ R → (al, listOf #[v1, v2] n2) ∈ R → NodeIn w R v1 l → NodeIn w R v2 r → NodeIn w R (.ref a) (.con o l r)
theorem OpIn.mono {w : World} {R R' : Led} {a : Nat} {o : Op} (hs : ∀ p ∈ R, p ∈ R') (h : OpIn w R a o) : OpIn w R' a o := by
  obtain ⟨d, t1, t2, t3, t4, n, h1, h2⟩ := h
  exact ⟨d, t1, t2, t3, t4, n, hs _ h1, hs _ h2⟩
theorem NodeIn.mono {w : World} {R R' : Led} (hs : ∀ p ∈ R, p ∈ R') {v : Value} {p : Pt} (h : NodeIn w R v p) : NodeIn w R' v p := by
  induction h with
  | var h1 h2 => exact .var (hs _ h1) (hs _ h2)
  | lit h1 h2 => exact .lit (hs _ h1) (hs _ h2)
  | con h1 h2 h3 _ _ i1 i2 => exact .con (hs _ h1) (hs _ h2) (hs _ h3) i1 i2
theorem NodeIn.ref {w : World} {R : Led} {v : Value} {p : Pt} (h : NodeIn w R v p) : ∃ a : Nat, v = .ref a := by cases h <;> exact ⟨_, rfl⟩
theorem NodeIn.newCon {w : World} {R Rt : Led} {o : Op} {v1 v2 : Value} {p1 p2 : Pt} {x d al n n2 : Nat} {t1 t2 t3 t4 : Tok} (h1 : NodeIn w R v1 p1) (h2 : NodeIn w R v2 p2) (hm : (o != .plus && o != .minus) = true) (l1 : ∀ p ∈ Rt, @LT.lt Nat _ p.1 al) (l2 : @LT.lt Nat _ al d) (l3 : @LT.lt Nat _ d x) :
    ∃ q New, ptAlg.mkc o p1 p2 = some q ∧ ((x, instObj 361 d) :: (d, dictOf [ent w "place" t1 .none, ent w "name" t2 (.str o.str t3), ent w "args" t4 (.ref al)] n) :: (al, listOf #[v1, v2] n2) :: Rt) = New ++ Rt ∧ Above New Rt ∧
      NodeIn w (New ++ R) (.ref x) q := by
  have hm' : ¬ (o = .plus ∨ o = .minus) := by intro h; rcases h with rfl | rfl <;> cases hm
  refine ⟨.con o p1 p2, [(x, instObj 361 d), (d, dictOf [ent w "place" t1 .none, ent w "name" t2 (.str o.str t3), ent w "args" t4 (.ref al)] n), (al, listOf #[v1, v2] n2)], by simp [ptAlg, hm'], rfl, ?_, .con (.head _) (.tail _ (.head _)) (.tail _ (.tail _ (.head _))) (h1.mono ?_) (h2.mono ?_)⟩
  · intro p hp z hz
    have := l1 z hz
    rcases List.mem_cons.mp hp with rfl | hp
    · exact Nat.lt_trans (Nat.lt_trans this l2) l3
    rcases List.mem_cons.mp hp with rfl | hp
    · exact Nat.lt_trans this l2
    rcases List.mem_cons.mp hp with rfl | hp
    · exact this
    · cases hp
  · intro p hp; exact .tail _ (.tail _ (.tail _ hp))
  · intro p hp; exact .tail _ (.tail _ (.tail _ hp))
theorem mkc_none {o : Op} {p1 p2 : Pt} (hm : (o != .plus && o != .minus) = false) : ptAlg.mkc o p1 p2 = none := by
  cases o <;> first | (cases hm; done) | rfl
set_option maxRecDepth 100000 in
set_option maxHeartbeats 8000000 in
theorem applied_ok (w : World) (R Rt : Led) (hs : ∀ p ∈ R, p ∈ Rt) (ao : Nat) (v1 v2 : Value) (o : Op) (p1 p2 : Pt) (ho : OpIn w R ao o) (h1 : NodeIn w R v1 p1) (h2 : NodeIn w R v2 p2) :
    CallsE w 370 [.ref ao, v1, v2] 6 Rt (fun r led' => ∃ q New, ptAlg.mkc o p1 p2 = some q ∧ led' = New ++ Rt ∧ Above New Rt ∧ NodeIn w (New ++ R) r q) Rt (ptAlg.mkc o p1 p2 = none) := by
  obtain ⟨a1, rfl⟩ := h1.ref
  obtain ⟨a2, rfl⟩ := h2.ref
  unfold CallsE
  intro p loose mean mg mb dp un gd cn cs a ccd cl outer A₀ base h₀ L m s Q E B F X N T hk hdp hun hret hrse
  revert X; k_fill; intro X
  refine OpIn.use ho fun d1 t11 t12 t13 t14 n1 hi1 hd1 => ?_
  refine wpAny_call ?_
  k_dflt ktr_enter
  refine letA ?_
  intro Ak
  have fz : Frozen Rt := trivial
  k_steps
  · exact hret _ _ _ _ (by assumption) (by assumption) (NodeIn.newCon h1 h2 (by assumption) (by assumption) (And.left (by assumption)) (by assumption))
  · exact hrse _ _ _ _ (by assumption) (by assumption) (by assumption) (mkc_none (by assumption))
theorem NodeIn.newLit {w : World} {R Rt : Led} {k : Int} {x d n : Nat} {t1 t2 t3 t4 t5 : Tok} (l1 : ∀ p ∈ Rt, @LT.lt Nat _ p.1 d) (l3 : @LT.lt Nat _ d x) :
    ∃ q New, ptAlg.ng (.lit k) = some q ∧ ((x, instObj 334 d) :: (d, dictOf [ent w "place" t1 .none, ent w "kind" t2 (.str (Str.ofString "int") t3), ent w "value" t4 (.int (-k) t5)] n) :: Rt) = New ++ Rt ∧ Above New Rt ∧
      NodeIn w (New ++ R) (.ref x) q := by
  refine ⟨.lit (-k), [(x, instObj 334 d), (d, dictOf [ent w "place" t1 .none, ent w "kind" t2 (.str (Str.ofString "int") t3), ent w "value" t4 (.int (-k) t5)] n)], rfl, rfl, ?_, .lit (.head _) (.tail _ (.head _))⟩
  intro p hp z hz
  have := l1 z hz
  rcases List.mem_cons.mp hp with rfl | hp
  · exact Nat.lt_trans this l3
  rcases List.mem_cons.mp hp with rfl | hp
  · exact this
  · cases hp
theorem isi_notlit {w : World} {A : Around} {E : Value → Shared → Prop} {s : Shared} {h₀ : Heap} {L : Addr} {m : Str → Option Value} {news : Led} {v : Value} {q : Pt} {Q : Value → Shared → Prop} (F : Fr h₀ L s.heap m) (X : (K39 w.params).In h₀) (N : News h₀ L s.heap news) (h : NodeIn w news v q) (hq : ∀ k, q ≠ .lit k) (hQ : Q (.bool false) { s with toks := s.toks + 1 }) :
    wpAny (model PySem.Challenge.rw_og0006_01.row.prog w) A (call (.builtin "isinstance") [v, .ref 334]) Q E s := by
  revert X; k_fill; intro X
  cases h with
  | lit => exact absurd rfl (hq _)
  | var h2 h3 => walk1; exact hQ
  | con h2 h3 => walk1; exact hQ
theorem ng_none {q : Pt} (hq : ∀ k, q ≠ .lit k) : ptAlg.ng q = none := by
  cases q with
  | lit k => exact absurd rfl (hq k)
  | var => rfl
  | con => rfl
local macro_rules | `(tactic| walk_at "call builtin:isinstance") => sq [dk (ru "isi_notlit" "ahahh_")]
set_option maxRecDepth 100000 in
set_option maxHeartbeats 8000000 in
theorem negated_ok (w : World) (R Rt : Led) (hs : ∀ p ∈ R, p ∈ Rt) (ao : Nat) (v1 : Value) (o : Op) (p1 : Pt) (ho : OpIn w R ao o) (h1 : NodeIn w R v1 p1) :
    CallsE w 377 [.ref ao, v1] 6 Rt (fun r led' => ∃ q New, ptAlg.ng p1 = some q ∧ led' = New ++ Rt ∧ Above New Rt ∧ NodeIn w (New ++ R) r q) Rt (ptAlg.ng p1 = none) := by
  unfold CallsE
  intro p loose mean mg mb dp un gd cn cs a ccd cl outer A₀ base h₀ L m s Q E B F X N T hk hdp hun hret hrse
  revert X; k_fill; intro X
  refine OpIn.use ho fun d1 t11 t12 t13 t14 n1 hi1 hd1 => ?_
  refine wpAny_call ?_
  have fz : Frozen Rt := trivial
  by_cases hq : ∀ k, p1 ≠ .lit k
  · have h9 := h1.mono hs
    clear h1
    k_dflt ktr_enter
    refine letA ?_
    intro Ak
    k_steps
    exact hrse _ _ _ _ (by assumption) (by assumption) (by assumption) (ng_none hq)
  cases h1 with
  | var => exact absurd (fun k e => nomatch e) hq
  | con => exact absurd (fun k e => nomatch e) hq
  | lit h2 h3 =>
    k_dflt ktr_enter
    refine letA ?_
    intro Ak
    k_steps
    exact hret _ _ _ _ (by assumption) (by assumption) (NodeIn.newLit (by assumption) (by assumption))
@[irreducible] noncomputable def stk (vs : List Value) : Array Value := vs.reverse.toArray
theorem stk_cons (v : Value) (vs : List Value) : stk (v :: vs) = (vs.reverse ++ [v]).toArray := by unfold stk; rw [List.reverse_cons]
theorem stk_push (v : Value) (vs : List Value) : (stk vs).push v = stk (v :: vs) := by rw [stk_cons]; unfold stk; simp
theorem stk_size (vs : List Value) : (stk vs).size = vs.length := by unfold stk; simp
section
variable {prog : Program} {w : World} {A : Around} {E : Value → Shared → Prop} {s : Shared} {h₀ : Heap} {L D : Addr} {m : Str → Option Value} {news news' : Led} {n : Nat} {v : Value} {vs : List Value}
theorem stk_pop {Q : Value → Shared → Prop} (F : Fr h₀ L s.heap m) (N : News h₀ L s.heap news) (U : Upd D (listOf (stk (v :: vs)) n) (listOf (stk vs) (n + 1)) news news')
    (hz : vs.length ≤ 1000) (h : ∀ h', Fr h₀ L h' m → News h₀ L h' news' → Q v { s with heap := h' }) : wpAny (model prog w) A (call (.builtin "list.pop") [.ref D]) Q E s := by
  have e2 : stk vs = vs.reverse.toArray := by unfold stk; rfl
  rw [stk_cons, e2] at U
  exact kl_pop F N (kpa_last v vs.reverse) U (by rw [sizeLine_eq]; simp; omega) h
theorem stk_append {Q : Value → Shared → Prop} (F : Fr h₀ L s.heap m) (N : News h₀ L s.heap news) (U : Upd D (listOf (stk vs) n) (listOf (stk (v :: vs)) (n + 1)) news news')
    (hz : vs.length ≤ 1000) (h : ∀ h', Fr h₀ L h' m → News h₀ L h' news' → Q .none { s with heap := h' }) : wpAny (model prog w) A (call (.builtin "list.append") [.ref D, v]) Q E s :=
  append_K F N (by rw [stk_push]; exact U) h (by rw [stk_size, sizeLine_eq]; omega)
theorem stk_last {value slice : PySem.Expr} {u : Tok} {Q : Value → Shared → Prop} (N : News h₀ L s.heap news) (hm : (D, listOf (stk (v :: vs)) n) ∈ news) (h : Q v s) 
    (hs : subscripted slice false (.ref D) (.int (-1) u) = operate [.ref D, .int (-1) u] (getItem (.ref D) (.int (-1) u)) := by with_unfolding_all rfl) :
    wpAny (model prog w) A (subscriptTail value slice (.ref D) (.int (-1) u)) Q E s := by
  have hl := listOf_isList (N _ hm).1
  refine tail_any hl.typeIs slot_list_getitem.lookup (wpAny_getItem_list_neg (k := -1) (t := u) hl (by decide) ?_ (by decide) ?_ h) hs
  · rw [stk_size, List.length_cons]; omega
  · rw [stk_size, List.length_cons, show ((-1 : Int) + ((vs.length + 1 : Nat) : Int)).toNat = vs.length by omega, stk_cons]; simp
end
theorem stk_ne {w : World} {A : Around} {E : Value → Shared → Prop} {s : Shared} {h₀ : Heap} {L D b : Addr} {news : Led} {n n2 : Nat} {v : Value} {vs : List Value} {Q : Value → Shared → Prop} (N : News h₀ L s.heap news) (hm : (D, listOf (stk (v :: vs)) n) ∈ news) (hb : (b, listOf [].toArray n2) ∈ news) (hu : A.units < cLine) (h : Q (.bool true) s) :
    wpAny (model PySem.Challenge.rw_og0006_01.row.prog w) A (compareOp .NotEq (.ref D) (.ref b)) Q E s := ne_nil N hm hb hu (by rw [stk_size]; exact h)
theorem stk_eq {w : World} {A : Around} {E : Value → Shared → Prop} {s : Shared} {h₀ : Heap} {L D b : Addr} {news : Led} {n n2 : Nat} {Q : Value → Shared → Prop} (N : News h₀ L s.heap news) (hm : (D, listOf (stk []) n) ∈ news) (hb : (b, listOf [].toArray n2) ∈ news) (hu : A.units < cLine) (h : Q (.bool false) s) :
    wpAny (model PySem.Challenge.rw_og0006_01.row.prog w) A (compareOp .NotEq (.ref D) (.ref b)) Q E s := ne_nil N hm hb hu (by rw [stk_size]; exact h)
theorem stk_any {w : World} {A : Around} {E : Value → Shared → Prop} {s : Shared} {h₀ : Heap} {L D b : Addr} {news : Led} {n n2 : Nat} {vs : List Value} {Q : Value → Shared → Prop} (N : News h₀ L s.heap news) (hm : (D, listOf (stk vs) n) ∈ news) (hb : (b, listOf [].toArray n2) ∈ news) (hu : A.units < cLine) (h : Q (.bool (!vs.isEmpty)) s) :
    wpAny (model PySem.Challenge.rw_og0006_01.row.prog w) A (compareOp .NotEq (.ref D) (.ref b)) Q E s := by
  cases vs with
  | nil => exact stk_eq N hm hb hu h
  | cons => exact stk_ne N hm hb hu h
local macro_rules | `(tactic| walk_at "call builtin:list.pop") => sq [kh, dk (ru "stk_pop" "aaUs_"), tl "h' F' N'" "Ns"]
local macro_rules | `(tactic| walk_at "call builtin:list.append") => sq [kh, dk (ru "stk_append" "aaUs_"), tl "h' F' N'" "Ns"]
local macro_rules | `(tactic| walk_at "subscriptTail") => sq [atSub "Value.int ( Neg.neg 1 ) _", dk (ru "stk_last" "am_w")]
local macro_rules | `(tactic| walk_at "compareOp NotEq ref ref") => sq [dk (orT [ru "stk_ne" "ammu_", ru "stk_eq" "ammu_"])]
local macro_rules | `(tactic| walk_at "getMethod ref") => sq [atMeth "\"pop\"", dk (ru "kl_method" "am$$_" "PySem.F.slot_list_pop PySem.F.type_list_pop")]
noncomputable def sortOf : Wt → Int
  | .bin _ => 0
  | .neg => 1
noncomputable def opOf : Wt → Op
  | .bin o => o
  | .neg => .minus
inductive WtIn (w : World) (lv : Lv) (R : Led) : Value → Wt → Prop
  | mk {a d n oa fa : Nat} {t1 t2 t3 t4 : Tok} {x : Wt} : (a, instObj 180 d) ∈ R → (d, dictOf [ent w "op" t1 (.ref oa), ent w "fixity" t2 (.ref fa), ent w "sort" t3 (.int (sortOf x) t4)] n) ∈ R → OpIn w R oa (opOf x) → FxIn w R fa (x.fx lv) → WtIn w lv R (.ref a) x
theorem WtIn.mono {w : World} {lv : Lv} {R R' : Led} (hs : ∀ p ∈ R, p ∈ R') {v : Value} {x : Wt} (h : WtIn w lv R v x) : WtIn w lv R' v x := by
  cases h with
  | mk h1 h2 h3 h4 => exact .mk (hs _ h1) (hs _ h2) (h3.mono hs) (h4.mono hs)
/-- The Binder itself. -/
noncomputable def BdIn (w : World) (R : Led) (b lo lw dk : Nat) : Prop :=
  ∃ (d : Nat) (t1 t2 t3 t4 t5 : Tok) (n : Nat), (b, instObj 271 d) ∈ R ∧ (d, dictOf [ent w "known" t1 (.ref dk), ent w "make" t2 (.ref 370), ent w "negate" t3 (.ref 377), ent w "operands" t4 (.ref lo), ent w "waiting" t5 (.ref lw)] n) ∈ R
theorem BdIn.use {w : World} {R : Led} {b lo lw dk : Nat} {C : Prop} (h : BdIn w R b lo lw dk) (k : ∀ (d : Nat) (t1 t2 t3 t4 t5 : Tok) (n : Nat), (b, instObj 271 d) ∈ R → (d, dictOf [ent w "known" t1 (.ref dk), ent w "make" t2 (.ref 370), ent w "negate" t3 (.ref 377), ent w "operands" t4 (.ref lo), ent w "waiting" t5 (.ref lw)] n) ∈ R → C) : C := by
  obtain ⟨d, t1, t2, t3, t4, t5, n, h1, h2⟩ := h
  exact k d t1 t2 t3 t4 t5 n h1 h2
theorem BdIn.mono {w : World} {R R' : Led} {b lo lw dk : Nat} (hs : ∀ p ∈ R, p ∈ R') (h : BdIn w R b lo lw dk) : BdIn w R' b lo lw dk := by
  obtain ⟨d, t1, t2, t3, t4, t5, n, h1, h2⟩ := h
  exact ⟨d, t1, t2, t3, t4, t5, n, hs _ h1, hs _ h2⟩
/-- The state: both stacks, and what is frozen. -/
noncomputable def BSt (w : World) (lv : Lv) (lo lw : Nat) (R : Led) (ws : List Wt) (ps : List Pt) (led : Led) : Prop :=
  ∃ (ov wv : List Value) (on wn : Nat), led = (lo, listOf (stk ov) on) :: (lw, listOf (stk wv) wn) :: R ∧ All2 (WtIn w lv R) wv ws ∧ All2 (NodeIn w R) ov ps ∧ @Ne Nat lo lw ∧ (∀ p ∈ R, @Ne Nat p.1 lo) ∧ (∀ p ∈ R, @Ne Nat p.1 lw)
theorem BSt.use {w : World} {lv : Lv} {lo lw : Nat} {R : Led} {ws : List Wt} {ps : List Pt} {led : Led} {C : Led → Prop} (h : BSt w lv lo lw R ws ps led) (k : ∀ (ov wv : List Value) (on wn : Nat), All2 (WtIn w lv R) wv ws → All2 (NodeIn w R) ov ps → @Ne Nat lo lw → (∀ p ∈ R, @Ne Nat p.1 lo) → (∀ p ∈ R, @Ne Nat p.1 lw) → C ((lo, listOf (stk ov) on) :: (lw, listOf (stk wv) wn) :: R)) : C led := by
  obtain ⟨ov, wv, on, wn, rfl, h1, h2, h3, h4, h5⟩ := h
  exact k ov wv on wn h1 h2 h3 h4 h5
theorem redPost_use {w : World} {lv : Lv} {lo lw : Nat} {R : Led} {x : Wt} {ws : List Wt} {ps : List Pt} {r : Value} {led' : Led} {C : Value → Led → Prop} (h : r = .none ∧ ∃ ps' R', reduce1 ptAlg x ps = some ps' ∧ Grows R R' ∧ BSt w lv lo lw R' ws ps' led') (k : ∀ (ps' : List Pt) (R' : Led) (ov wv : List Value) (on wn : Nat), reduce1 ptAlg x ps = some ps' → Grows R R' → (∀ p ∈ R, p ∈ R') → All2 (WtIn w lv R') wv ws → All2 (NodeIn w R') ov ps' → @Ne Nat lo lw → (∀ p ∈ R', @Ne Nat p.1 lo) → (∀ p ∈ R', @Ne Nat p.1 lw) → C .none ((lo, listOf (stk ov) on) :: (lw, listOf (stk wv) wn) :: R')) : C r led' := by
  obtain ⟨rfl, ps', R', a, b, ov, wv, on, wn, rfl, h1, h2, h3, h4, h5⟩ := h
  exact k ps' R' ov wv on wn a b b.1 h1 h2 h3 h4 h5
noncomputable def bins : List Wt → Nat
  | [] => 0
  | .bin _ :: ws => bins ws + 1
  | .neg :: ws => bins ws
theorem bi1 : bins [] = 0 := rfl
theorem bi2 {o : Op} {ws : List Wt} : bins (.bin o :: ws) = bins ws + 1 := rfl
theorem bi3 {ws : List Wt} : bins (.neg :: ws) = bins ws := rfl
theorem Above.grows {New Rt R : Led} (h : Above New Rt) (hs : ∀ p ∈ R, p ∈ Rt) : Grows R (New ++ R) := ⟨fun _ hp => List.mem_append.mpr (.inr hp), fun p hp => (List.mem_append.mp hp).elim (fun x => .inr fun q hq => h p x q (hs q hq)) .inl⟩
theorem sub2 {a b : Addr × Obj} {R : Led} : ∀ p ∈ R, p ∈ a :: b :: R := fun _ hp => .tail _ (.tail _ hp)
theorem above_ne1 {New R : Led} {a b : Nat} {o o2 : Obj} (h : Above New ((a, o) :: (b, o2) :: R)) (h1 : ∀ p ∈ R, @Ne Nat p.1 a) : ∀ p ∈ New ++ R, @Ne Nat p.1 a := fun _ hp => (List.mem_append.mp hp).elim (fun x => Nat.ne_of_gt (h _ x _ (.head _))) (h1 _)
theorem above_ne2 {New R : Led} {a b : Nat} {o o2 : Obj} (h : Above New ((a, o) :: (b, o2) :: R)) (h1 : ∀ p ∈ R, @Ne Nat p.1 b) : ∀ p ∈ New ++ R, @Ne Nat p.1 b := fun _ hp => (List.mem_append.mp hp).elim (fun x => Nat.ne_of_gt (h _ x _ (.tail _ (.head _)))) (h1 _)
theorem news_out {g h : Heap} {L : Addr} {New R : Led} {a b : Addr × Obj} (N : News g L h (New ++ a :: b :: R)) : News g L h (a :: b :: (New ++ R)) := News.sub N (by grind)
theorem con2 {w : World} {R : Led} {a b : Nat} {o o2 : Obj} {f : Option Pt} {r : Value} {led' : Led} {g h : Heap} {L : Addr} {G : Prop} (h0 : ∃ q New, f = some q ∧ led' = New ++ (a, o) :: (b, o2) :: R ∧ Above New ((a, o) :: (b, o2) :: R) ∧ NodeIn w (New ++ R) r q) (n1 : ∀ p ∈ R, @Ne Nat p.1 a) (n2 : ∀ p ∈ R, @Ne Nat p.1 b) (k : ∀ (q : Pt) (New : Led), f = some q → Above New ((a, o) :: (b, o2) :: R) → NodeIn w (New ++ R) r q → News g L h ((a, o) :: (b, o2) :: (New ++ R)) → (∀ p ∈ New ++ R, @Ne Nat p.1 a) → (∀ p ∈ New ++ R, @Ne Nat p.1 b) → G) : News g L h led' → G := by
  intro N
  obtain ⟨q, New, e1, rfl, hA, hq⟩ := h0
  exact k q New e1 hA hq (news_out N) (above_ne1 hA n1) (above_ne2 hA n2)
def conTl : Tac := seqT [intros "r9 l9 h' tk' F' N' P9", rv "N'", ru "con2" "$hh_" "%P9", intros "q9 New9 e1 hA9 hq9 N' n8 n7", tr fun _ => dsm [] [], tr (kw "sweep")]
local macro_rules | `(tactic| walk_at "call ref") => sq [atCall "370", dk (cl "CallsE.use" "applied_ok" "...$......hhh" "sub2"), tlE conTl]
local macro_rules | `(tactic| walk_at "call ref") => sq [atCall "377", dk (cl "CallsE.use" "negated_ok" "...$....hh" "sub2"), tlE conTl]
theorem reduce_some1 {o : Op} {l r q : Pt} {ps : List Pt} (h : ptAlg.mkc o l r = some q) : reduce1 ptAlg (.bin o) (r :: l :: ps) = some (q :: ps) := by simp [re1, re2, re3, re4, re5, h]
theorem reduce_some2 {r q : Pt} {ps : List Pt} (h : ptAlg.ng r = some q) : reduce1 ptAlg .neg (r :: ps) = some (q :: ps) := by simp [re1, re2, re3, re4, re5, h]
theorem reduce_none1 {o : Op} {l r : Pt} {ps : List Pt} (h : ptAlg.mkc o l r = none) : reduce1 ptAlg (.bin o) (r :: l :: ps) = none := by simp [re1, re2, re3, re4, re5, h]
theorem reduce_none2 {r : Pt} {ps : List Pt} (h : ptAlg.ng r = none) : reduce1 ptAlg .neg (r :: ps) = none := by simp [re1, re2, re3, re4, re5, h]
theorem reduce_end {w : World} {lv : Lv} {lo lw on on' wn : Nat} {R New : Led} {ov wv : List Value} {x : Wt} {ws : List Wt} {ps0 ps : List Pt} {v : Value} {q : Pt} (e : reduce1 ptAlg x ps0 = some (q :: ps)) (hq : NodeIn w (New ++ R) v q) (hA : Above New ((lo, listOf (stk ov) on) :: (lw, listOf (stk wv) wn) :: R)) (hn : @Ne Nat lo lw) (h1 : ∀ p ∈ R, @Ne Nat p.1 lo) (h2 : ∀ p ∈ R, @Ne Nat p.1 lw) (ho : All2 (NodeIn w R) ov ps) (hw : All2 (WtIn w lv R) wv ws) :
    Value.none = Value.none ∧ ∃ ps' R', reduce1 ptAlg x ps0 = some ps' ∧ Grows R R' ∧ BSt w lv lo lw R' ws ps' ((lo, listOf (stk (v :: ov)) on') :: (lw, listOf (stk wv) wn) :: (New ++ R)) :=
  ⟨rfl, _, _, e, hA.grows sub2, ⟨_, _, _, _, rfl, hw.mono fun _ _ x => x.mono fun _ hp => List.mem_append.mpr (.inr hp), .cons hq (ho.mono fun _ _ x => x.mono fun _ hp => List.mem_append.mpr (.inr hp)), hn, above_ne1 hA h1, above_ne2 hA h2⟩⟩
theorem sort_eq2 {prog : Program} {w : World} {A : Around} {E : Value → Shared → Prop} {s : Shared} {x : Wt} {t u : Tok} {Q : Value → Shared → Prop} (h : Q (.bool false) s) : wpAny (model prog w) A (compareOp .Eq (.int (sortOf x) t) (.int 2 u)) Q E s := eq_int (by cases x <;> exact h)
theorem sort_ne2 {prog : Program} {w : World} {A : Around} {E : Value → Shared → Prop} {s : Shared} {x : Wt} {t u : Tok} {Q : Value → Shared → Prop} (h : Q (.bool true) s) : wpAny (model prog w) A (compareOp .NotEq (.int (sortOf x) t) (.int 2 u)) Q E s := ne_int (by cases x <;> exact h)
local macro_rules | `(tactic| walk_at "compareOp Eq int int") => sq [atT "compareOp _ ( Value.int ( sortOf _ ) _ ) _", dk (ru "sort_eq2" "_")]
local macro_rules | `(tactic| walk_at "compareOp NotEq int int") => sq [atT "compareOp _ ( Value.int ( sortOf _ ) _ ) _", dk (ru "sort_ne2" "_")]
local macro_rules | `(tactic| walk_at "exec If Compare cons cons") => sq [stop1 "MarkStop"]
set_option maxRecDepth 100000 in
set_option maxHeartbeats 8000000 in
theorem reduce_ok (w : World) (lv : Lv) (R led : Led) (b lo lw dk : Nat) (v : Value) (x : Wt) (ws : List Wt) (ps : List Pt) (hB : BdIn w R b lo lw dk) (hS : BSt w lv lo lw R (x :: ws) ps led) (hl1 : ws.length ≤ 900) (hl2 : ps.length ≤ 900) (hn : bins (x :: ws) < ps.length) :
    CallsE w 254 [.ref b, v] 10 led (fun r led' => r = .none ∧ ∃ ps' R', reduce1 ptAlg x ps = some ps' ∧ Grows R R' ∧ BSt w lv lo lw R' ws ps' led') R (reduce1 ptAlg x ps = none) := by
  unfold CallsE
  intro p loose mean mg mb dp un gd cn cs a ccd cl outer A₀ base h₀ L m s Q E B F X N T hk hdp hun hret hrse
  revert X; k_fill; intro X
  refine BdIn.use hB fun d t1 t2 t3 t4 t5 n hb1 hb2 => ?_
  revert N
  apply BSt.use hS
  intro ov wv on wn hwv hov hne hR1 hR2 N
  have q1 := hwv.length
  have q2 := hov.length
  cases hwv with
  | cons hx hws =>
  cases hx with
  | mk hx1 hx2 hx3 hx4 =>
  have fz : Frozen R := trivial
  have ms : MarkStop := trivial
  refine wpAny_call ?_
  cases hov with
  | nil => exact absurd hn (Nat.not_lt_zero _)
  | cons hr hov =>
  simp only [List.length_cons] at q1 q2 hl2
  k_dflt ktr_enter
  refine letA ?_
  intro Ak
  k_steps
  unfold Stop
  cases x with
  | bin o =>
    dsimp only [opOf, sortOf] at hx2 hx3 ⊢
    cases hov with
    | nil => exact absurd (Nat.lt_of_succ_lt_succ hn) (Nat.not_lt_zero _)
    | cons hl hov =>
    simp only [List.length_cons] at q1 q2 hl2
    k_steps
    · exact hret _ _ _ _ (by assumption) (by assumption) (reduce_end (reduce_some1 (by assumption)) (by assumption) (by assumption) hne hR1 hR2 hov hws)
    · exact hrse _ _ _ _ (by assumption) (by assumption) (RaisedN.sub (by assumption) sub2) (reduce_none1 (by assumption))
  | neg =>
    dsimp only [opOf, sortOf] at hx2 hx3 ⊢
    k_steps
    · exact hret _ _ _ _ (by assumption) (by assumption) (reduce_end (reduce_some2 (by assumption)) (by assumption) (by assumption) hne hR1 hR2 hov hws)
    · exact hrse _ _ _ _ (by assumption) (by assumption) (RaisedN.sub (by assumption) sub2) (reduce_none2 (by assumption))
theorem reduce_use (w : World) (lv : Lv) (R : Led) (b lo lw dk : Nat) (v : Value) (x : Wt) (ws : List Wt) (ps : List Pt) (ov wv : List Value) (on wn : Nat) (hB : BdIn w R b lo lw dk) (hwv : All2 (WtIn w lv R) wv (x :: ws)) (hov : All2 (NodeIn w R) ov ps) (hne : @Ne Nat lo lw) (hR1 : ∀ p ∈ R, @Ne Nat p.1 lo) (hR2 : ∀ p ∈ R, @Ne Nat p.1 lw) (hl1 : ws.length ≤ 900) (hl2 : ps.length ≤ 900) (hn : bins (x :: ws) < ps.length) :
    CallsE w 254 [.ref b, v] 10 ((lo, listOf (stk ov) on) :: (lw, listOf (stk wv) wn) :: R) (fun r led' => r = .none ∧ ∃ ps' R', reduce1 ptAlg x ps = some ps' ∧ Grows R R' ∧ BSt w lv lo lw R' ws ps' led') R (reduce1 ptAlg x ps = none) :=
  reduce_ok w lv R _ b lo lw dk v x ws ps hB ⟨ov, wv, on, wn, rfl, hwv, hov, hne, hR1, hR2⟩ hl1 hl2 hn
theorem reduce_len {x : Wt} {ps ps' : List Pt} (h : reduce1 ptAlg x ps = some ps') : ps'.length ≤ ps.length ∧ ∀ n, bins [x] + n + 1 = ps.length → n + 1 = ps'.length := by
  cases x with
  | bin o =>
    cases ps with
    | nil => cases h
    | cons r ps =>
      cases ps with
      | nil => cases h
      | cons l ps =>
        cases e : ptAlg.mkc o l r with
        | none => simp [re1, re2, re3, re4, re5, e] at h
        | some q => simp [re1, re2, re3, re4, re5, e] at h; subst h; simp [bi1, bi2, bi3]; omega
  | neg =>
    cases ps with
    | nil => cases h
    | cons r ps =>
      cases e : ptAlg.ng r with
      | none => simp [re1, re2, re3, re4, re5, e] at h
      | some q => simp [re1, re2, re3, re4, re5, e] at h; subst h; simp [bi1, bi2, bi3]
theorem bins_cons (x : Wt) (ws : List Wt) : bins (x :: ws) = bins [x] + bins ws := by cases x <;> simp [bi1, bi2, bi3]; omega
local macro_rules | `(tactic| walk_at "call ref") => sq [atCall "254", dk (cl "CallsE.use" "reduce_use" "...............hhhhhhooo"), tlE (tl2 "redPost_use" "ps9 R9 ov9 wv9 on9 wn9 e2 hG9 hs9 hwv9 hov9 hne9 hR19 hR29 N'" [])]
local macro_rules | `(tactic| walk_at "call ref") => sq [atCall "191", dk (cl "CallsE.use" "check_ok" ".......XX"), tlE (tl2 "eq3_use" "hc9 N'" [])]
local macro_rules | `(tactic| walk_at "call ref") => sq [atCall "198", dk (cl "Calls.use" "binds_ok" "......XX"), tl2 "eq2_use" "N'" []]
noncomputable def MarkAny : Prop := True
local macro_rules | `(tactic| walk_at "compareOp NotEq ref ref") => sq [rd (ren "MarkAny" "hma"), dk (ru "stk_any" "ammu_")]
local macro_rules | `(tactic| walk_at "exec While Name cons nil") => sq [stop1 "MarkStop"]
noncomputable def SetJ (w : World) (lv : Lv) (lo lw : Nat) (R : Led) (f : Fx) (ws : List Wt) (ps : List Pt) (m₀ : Loc) (n : Nat) (m : Loc) (news : Led) : Prop :=
  ∃ (g : Bool) (ws' : List Wt) (ps' : List Pt) (R' : Led), n = (if g then ws'.length + 1 else 0) ∧ m = (fun y => if y = Str.ofString "going" then some (.bool g) else m₀ y) ∧ Grows R R' ∧ BSt w lv lo lw R' ws' ps' news ∧ bins ws' + 1 = ps'.length ∧ ws'.length ≤ ws.length ∧ ps'.length ≤ ps.length ∧
    (if g then ws' ≠ [] ∧ settle ptAlg lv f ws' ps' = settle ptAlg lv f ws ps else settle ptAlg lv f ws ps = some (ws', ps'))
theorem SetJ.use {w : World} {lv : Lv} {lo lw : Nat} {R : Led} {f : Fx} {ws : List Wt} {ps : List Pt} {m₀ : Loc} {n : Nat} {m : Loc} {news : Led} {C : Nat → Loc → Led → Prop} (h : SetJ w lv lo lw R f ws ps m₀ n m news) (k : ∀ (g : Bool) (ws' : List Wt) (ps' : List Pt) (R' : Led) (ov wv : List Value) (on wn : Nat), Grows R R' → All2 (WtIn w lv R') wv ws' → All2 (NodeIn w R') ov ps' → @Ne Nat lo lw → (∀ p ∈ R', @Ne Nat p.1 lo) → (∀ p ∈ R', @Ne Nat p.1 lw) → bins ws' + 1 = ps'.length → ws'.length ≤ ws.length → ps'.length ≤ ps.length →
    (if g then ws' ≠ [] ∧ settle ptAlg lv f ws' ps' = settle ptAlg lv f ws ps else settle ptAlg lv f ws ps = some (ws', ps')) → C (if g then ws'.length + 1 else 0) (fun y => if y = Str.ofString "going" then some (.bool g) else m₀ y) ((lo, listOf (stk ov) on) :: (lw, listOf (stk wv) wn) :: R')) : C n m news := by
  obtain ⟨g, ws', ps', R', rfl, rfl, b, ⟨ov, wv, on, wn, rfl, h1, h2, h3, h4, h5⟩, c1, c2, c3, c4⟩ := h
  exact k g ws' ps' R' ov wv on wn b h1 h2 h3 h4 h5 c1 c2 c3 c4
theorem setPost_use {w : World} {lv : Lv} {lo lw : Nat} {R : Led} {f : Fx} {ws : List Wt} {ps : List Pt} {r : Value} {led' : Led} {C : Value → Led → Prop} (h : r = .none ∧ ∃ ws' ps' R', settle ptAlg lv f ws ps = some (ws', ps') ∧ Grows R R' ∧ BSt w lv lo lw R' ws' ps' led' ∧ bins ws' + 1 = ps'.length ∧ ws'.length ≤ ws.length ∧ ps'.length ≤ ps.length) (k : ∀ (ws' : List Wt) (ps' : List Pt) (R' : Led) (ov wv : List Value) (on wn : Nat), settle ptAlg lv f ws ps = some (ws', ps') → Grows R R' → All2 (WtIn w lv R') wv ws' → All2 (NodeIn w R') ov ps' → @Ne Nat lo lw → (∀ p ∈ R', @Ne Nat p.1 lo) → (∀ p ∈ R', @Ne Nat p.1 lw) → bins ws' + 1 = ps'.length → ws'.length ≤ ws.length → ps'.length ≤ ps.length → C .none ((lo, listOf (stk ov) on) :: (lw, listOf (stk wv) wn) :: R')) : C r led' := by
  obtain ⟨rfl, ws', ps', R', a, b, ⟨ov, wv, on, wn, rfl, h1, h2, h3, h4, h5⟩, c1, c2, c3⟩ := h
  exact k ws' ps' R' ov wv on wn a b h1 h2 h3 h4 h5 c1 c2 c3
theorem set_some {lv : Lv} {f : Fx} {x : Wt} {ws : List Wt} {ps ps9 : List Pt} (hc : clash (x.fx lv) f = false) (hf : first' (x.fx lv) f = true) (h : reduce1 ptAlg x ps = some ps9) : settle ptAlg lv f (x :: ws) ps = settle ptAlg lv f ws ps9 := by simp [se1, se2, hc, hf, h]
theorem set_stop {lv : Lv} {f : Fx} {x : Wt} {ws : List Wt} {ps : List Pt} (hc : clash (x.fx lv) f = false) (hf : first' (x.fx lv) f = false) : settle ptAlg lv f (x :: ws) ps = some (x :: ws, ps) := by simp [se1, se2, hc, hf]
theorem set_none1 {lv : Lv} {f : Fx} {x : Wt} {ws : List Wt} {ps : List Pt} (hc : clash (x.fx lv) f = true) : settle ptAlg lv f (x :: ws) ps = none := by simp [se1, se2, hc]
theorem set_none2 {lv : Lv} {f : Fx} {x : Wt} {ws : List Wt} {ps : List Pt} (hc : clash (x.fx lv) f = false) (hf : first' (x.fx lv) f = true) (h : reduce1 ptAlg x ps = none) : settle ptAlg lv f (x :: ws) ps = none := by simp [se1, se2, hc, hf, h]
theorem SetJ.next {w : World} {lv : Lv} {lo lw on wn : Nat} {R R' R9 : Led} {f : Fx} {ws ws9 : List Wt} {ps ps1 ps9 : List Pt} {x : Wt} {ov wv : List Value} {m₀ m : Loc} (hset : x :: ws9 ≠ [] ∧ settle ptAlg lv f (x :: ws9) ps1 = settle ptAlg lv f ws ps) (hc : clash (x.fx lv) f = false) (hf : first' (x.fx lv) f = true) (h : reduce1 ptAlg x ps1 = some ps9)
    (hG : Grows R R') (hG9 : Grows R' R9) (hw : All2 (WtIn w lv R9) wv ws9) (ho : All2 (NodeIn w R9) ov ps9) (hne : @Ne Nat lo lw) (hR1 : ∀ p ∈ R9, @Ne Nat p.1 lo) (hR2 : ∀ p ∈ R9, @Ne Nat p.1 lw) (hb : bins (x :: ws9) + 1 = ps1.length) (hl1 : (x :: ws9).length ≤ ws.length) (hl2 : ps1.length ≤ ps.length) (em : m = (fun y => if y = Str.ofString "going" then some (.bool (!wv.isEmpty)) else m₀ y)) :
    SetJ w lv lo lw R f ws ps m₀ (if !wv.isEmpty then ws9.length + 1 else 0) m ((lo, listOf (stk ov) on) :: (lw, listOf (stk wv) wn) :: R9) := by
  have hl := reduce_len h
  rw [bins_cons] at hb
  refine ⟨!wv.isEmpty, ws9, ps9, R9, rfl, em, hG.trans hG9, ⟨_, _, _, _, rfl, hw, ho, hne, hR1, hR2⟩, hl.2 _ hb, ?_, Nat.le_trans hl.1 hl2, ?_⟩
  · simp only [List.length_cons] at hl1; omega
  · rw [set_some hc hf h] at hset
    cases hw with
    | nil => simpa [se1] using hset.2.symm
    | cons _ _ => simpa using hset.2
theorem SetJ.start {w : World} {lv : Lv} {lo lw on wn : Nat} {R : Led} {f : Fx} {ws : List Wt} {ps : List Pt} {ov wv : List Value} {m : Loc} (hw : All2 (WtIn w lv R) wv ws) (ho : All2 (NodeIn w R) ov ps) (hne : @Ne Nat lo lw) (hR1 : ∀ p ∈ R, @Ne Nat p.1 lo) (hR2 : ∀ p ∈ R, @Ne Nat p.1 lw) (hn : bins ws + 1 = ps.length) :
    SetJ w lv lo lw R f ws ps (fun y => if y = Str.ofString "going" then some (.bool (!wv.isEmpty)) else m y) (if !wv.isEmpty then ws.length + 1 else 0) (fun y => if y = Str.ofString "going" then some (.bool (!wv.isEmpty)) else m y) ((lo, listOf (stk ov) on) :: (lw, listOf (stk wv) wn) :: R) := by
  refine ⟨!wv.isEmpty, ws, ps, R, rfl, by (funext y; by_cases e : y = Str.ofString "going" <;> simp [e]), Grows.refl _, ⟨_, _, _, _, rfl, hw, ho, hne, hR1, hR2⟩, hn, Nat.le_refl _, Nat.le_refl _, ?_⟩
  cases hw with
  | nil => exact rfl
  | cons _ _ => exact ⟨(fun e => by cases e), rfl⟩
theorem set_lt {b : Bool} {x : Wt} {ws : List Wt} : (if b then ws.length + 1 else 0) < if true = true then (x :: ws).length + 1 else 0 := by cases b <;> simp
theorem SetJ.halt {w : World} {lv : Lv} {lo lw on wn : Nat} {R R' : Led} {f : Fx} {ws ws9 : List Wt} {ps ps1 : List Pt} {x : Wt} {ov wv : List Value} {m₀ m : Loc} (hset : x :: ws9 ≠ [] ∧ settle ptAlg lv f (x :: ws9) ps1 = settle ptAlg lv f ws ps) (hc : clash (x.fx lv) f = false) (hf : first' (x.fx lv) f = false)
    (hG : Grows R R') (hw : All2 (WtIn w lv R') wv (x :: ws9)) (ho : All2 (NodeIn w R') ov ps1) (hne : @Ne Nat lo lw) (hR1 : ∀ p ∈ R', @Ne Nat p.1 lo) (hR2 : ∀ p ∈ R', @Ne Nat p.1 lw) (hb : bins (x :: ws9) + 1 = ps1.length) (hl1 : (x :: ws9).length ≤ ws.length) (hl2 : ps1.length ≤ ps.length) (em : m = (fun y => if y = Str.ofString "going" then some (.bool (first' (x.fx lv) f)) else m₀ y)) :
    SetJ w lv lo lw R f ws ps m₀ (if false = true then (x :: ws9).length + 1 else 0) m ((lo, listOf (stk ov) on) :: (lw, listOf (stk wv) wn) :: R') := by
  rw [hf] at em
  refine ⟨false, x :: ws9, ps1, R', rfl, em, hG, ⟨_, _, _, _, rfl, hw, ho, hne, hR1, hR2⟩, hb, hl1, hl2, ?_⟩
  have h := hset.2
  rw [set_stop hc hf] at h
  simpa using h.symm
theorem loc3 {a : Str} {v1 v2 v3 : Option Value} {m : Loc} : (fun y => if y = a then v1 else if y = a then v2 else if y = a then v3 else m y) = fun y => if y = a then v1 else m y := by
  funext y
  by_cases e : y = a
  · simp only [if_pos e]
  · simp only [if_neg e]
theorem loc2 {a : Str} {v1 v2 : Option Value} {m : Loc} : (fun y => if y = a then v1 else if y = a then v2 else m y) = fun y => if y = a then v1 else m y := by
  funext y
  by_cases e : y = a
  · simp only [if_pos e]
  · simp only [if_neg e]
set_option maxRecDepth 100000 in
set_option maxHeartbeats 8000000 in
theorem settle_ok (w : World) (lv : Lv) (R : Led) (b lo lw dk fa : Nat) (f : Fx) (v : Value) (ws : List Wt) (ps : List Pt) (ov wv : List Value) (on wn : Nat) (hB : BdIn w R b lo lw dk) (hwv : All2 (WtIn w lv R) wv ws) (hov : All2 (NodeIn w R) ov ps) (hne : @Ne Nat lo lw) (hR1 : ∀ p ∈ R, @Ne Nat p.1 lo) (hR2 : ∀ p ∈ R, @Ne Nat p.1 lw) (hF : FxIn w R fa f) (hl1 : ws.length ≤ 900) (hl2 : ps.length ≤ 900) (hn : bins ws + 1 = ps.length) :
    CallsE w 247 [.ref b, .ref fa, v] 12 ((lo, listOf (stk ov) on) :: (lw, listOf (stk wv) wn) :: R) (fun r led' => r = .none ∧ ∃ ws' ps' R', settle ptAlg lv f ws ps = some (ws', ps') ∧ Grows R R' ∧ BSt w lv lo lw R' ws' ps' led' ∧ bins ws' + 1 = ps'.length ∧ ws'.length ≤ ws.length ∧ ps'.length ≤ ps.length) R (settle ptAlg lv f ws ps = none) := by
  unfold CallsE
  intro p loose mean mg mb dp un gd cn cs a ccd cl outer A₀ base h₀ L m s Q E B F X N T hk hdp hun hret hrse
  revert X; k_fill; intro X
  have hB0 := hB
  refine BdIn.use hB0 fun d t1 t2 t3 t4 t5 n hb1 hb2 => ?_
  have fz : Frozen R := trivial
  have ms : MarkStop := trivial
  have ma : MarkAny := trivial
  refine wpAny_call ?_
  k_dflt ktr_enter
  refine letA ?_
  intro Ak
  k_steps
  unfold Stop
  rename News _ _ _ _ => N1
  rename Fr _ _ _ _ => F1
  refine while_J (SetJ w lv lo lw R f ws ps) _ F1 (News.sub N1 fun _ hp => .tail _ hp) (by passes_own) (SetJ.start hwv hov hne hR1 hR2 hn) ?_
  intro n1 m₁ news₁ h₁ tk₁ F2 N2 hJ
  revert F2 N2
  apply SetJ.use hJ
  intro g ws' ps' R' ov' wv' on' wn' hG hwv' hov' hne' hR1' hR2' hb' hl1' hl2' hset F2 N2
  clear F1 N1 hwv hov
  have hs' := hG.1
  have hB' := hB.mono hs'
  have hF' := hF.mono hs'
  have fz' : Frozen R' := trivial
  cases g with
  | false =>
    simp only [Bool.false_eq_true, if_false] at hset
    k_steps
    exact hret _ _ _ _ (by assumption) (by assumption) ⟨rfl, _, _, _, hset, hG, ⟨_, _, _, _, rfl, hwv', hov', hne', hR1', hR2'⟩, hb', hl1', hl2'⟩
  | true =>
    simp only [if_true] at hset
    have hw1 := hwv'
    cases hwv' with
    | nil => exact absurd rfl hset.1
    | cons hx hws =>
    cases hx with
    | mk hx1 hx2 hx3 hx4 =>
    have z1 := hl1'
    have z2 := hl1
    simp only [List.length_cons] at z1 z2
    have z3 : ps'.length ≤ 900 := Nat.le_trans hl2' hl2
    k_steps
    · exact WhileStep2.go (by assumption) (News.sub (by assumption) fun _ hp => .tail _ hp) set_lt (SetJ.next hset (by assumption) (by assumption) (by assumption) hG (by assumption) (by assumption) (by assumption) (by assumption) (by assumption) (by assumption) hb' hl1' hl2' loc3)
    · exact hrse _ _ _ _ (by assumption) (by assumption) (RaisedN.sub (by assumption) hG.1) (hset.2.symm.trans (set_none2 (by assumption) (by assumption) (by assumption)))
    · refine WhileStep2.go (by assumption) (by assumption) ?_ (SetJ.halt hset (by assumption) (by assumption) hG hw1 (by assumption) (by assumption) (by assumption) (by assumption) hb' hl1' hl2' loc2)
      simp
    · exact hrse _ _ _ _ (by assumption) (by assumption) (RaisedN.sub (by assumption) fun q hq => sub2 _ (hG.1 q hq)) (hset.2.symm.trans (set_none1 (by assumption)))
local macro_rules | `(tactic| walk_at "call ref") => sq [rd (ru "stopC" "H_")]
theorem Calls.perm {w : World} {f : Addr} {vs : List Value} {size : Nat} {led led2 : Led} {Post : Value → Led → Prop} (C : Calls w f vs size led Post) (hs : ∀ p ∈ led, p ∈ led2) : Calls w f vs size led2 Post :=
  fun p loose mean mg mb dp un gd cn cs a ccd cl outer A₀ base h₀ L m s Q E B F X N T hk hdp hun ret => C p loose mean mg mb dp un gd cn cs a ccd cl outer A₀ base h₀ L m s Q E B F X (News.sub N hs) T hk hdp hun ret
theorem CallsE.perm {w : World} {f : Addr} {vs : List Value} {size : Nat} {led led2 R : Led} {EP : Prop} {Post : Value → Led → Prop} (C : CallsE w f vs size led Post R EP) (hs : ∀ p ∈ led, p ∈ led2) : CallsE w f vs size led2 Post R EP :=
  fun p loose mean mg mb dp un gd cn cs a ccd cl outer A₀ base h₀ L m s Q E B F X N T hk hdp hun ret => C p loose mean mg mb dp un gd cn cs a ccd cl outer A₀ base h₀ L m s Q E B F X (News.sub N hs) T hk hdp hun ret
theorem News.swap22 {h₀ h : Heap} {L : Addr} {a b c d : Addr × Obj} {r : Led} (N : News h₀ L h (a :: b :: c :: d :: r)) : News h₀ L h (c :: d :: a :: b :: r) := News.sub N (by grind)
theorem all2_up {w : World} {lv : Lv} {R R' : Led} {wv : List Value} {ws : List Wt} (hs : ∀ p ∈ R, p ∈ R') (h : All2 (WtIn w lv R) wv ws) : All2 (WtIn w lv R') wv ws := h.mono fun _ _ x => x.mono hs
theorem all2_up2 {w : World} {R R' : Led} {ov : List Value} {ps : List Pt} (hs : ∀ p ∈ R, p ∈ R') (h : All2 (NodeIn w R) ov ps) : All2 (NodeIn w R') ov ps := h.mono fun _ _ x => x.mono hs
theorem wait_end {w : World} {lv : Lv} {lo lw on wn' x d ao fa n : Nat} {t1 t2 t3 t4 : Tok} {R : Led} {ov wv : List Value} {y : Wt} {k : Int} {ws : List Wt} {ps : List Pt} (hk : k = sortOf y) (ho : OpIn w R ao (opOf y)) (hf : FxIn w R fa (y.fx lv)) (hov : All2 (NodeIn w R) ov ps) (hwv : All2 (WtIn w lv R) wv ws) (hne : @Ne Nat lo lw) (h1 : ∀ p ∈ R, @Ne Nat p.1 lo) (h2 : ∀ p ∈ R, @Ne Nat p.1 lw)
    (l1 : @LT.lt Nat _ lo d ∧ @LT.lt Nat _ lw d ∧ AllLt d R) (l2 : @LT.lt Nat _ d x) :
    Value.none = Value.none ∧ ∃ R', Grows R R' ∧ BSt w lv lo lw R' (y :: ws) ps ((lo, listOf (stk ov) on) :: (lw, listOf (stk (.ref x :: wv)) wn') :: (x, instObj 180 d) :: (d, dictOf [ent w "op" t1 (.ref ao), ent w "fixity" t2 (.ref fa), ent w "sort" t3 (.int k t4)] n) :: R) := by
  subst hk
  have hs : ∀ p ∈ R, p ∈ (x, instObj 180 d) :: (d, dictOf [ent w "op" t1 (.ref ao), ent w "fixity" t2 (.ref fa), ent w "sort" t3 (.int (sortOf y) t4)] n) :: R := fun _ hp => .tail _ (.tail _ hp)
  obtain ⟨l11, l12, l13⟩ := l1
  replace l13 : ∀ p ∈ R, @LT.lt Nat _ p.1 d := fun p hp => allLt_mem l13 p hp
  refine ⟨rfl, _, ⟨hs, ?_⟩, ⟨_, _, _, _, rfl, .cons (.mk (.head _) (.tail _ (.head _)) (ho.mono hs) (hf.mono hs)) (all2_up hs hwv), all2_up2 hs hov, hne, ?_, ?_⟩⟩
  · intro p hp
    rcases List.mem_cons.mp hp with rfl | hp
    · exact .inr fun q hq => Nat.lt_trans (l13 q hq) l2
    rcases List.mem_cons.mp hp with rfl | hp
    · exact .inr l13
    · exact .inl hp
  · intro p hp
    rcases List.mem_cons.mp hp with rfl | hp
    · exact Nat.ne_of_gt (Nat.lt_trans l11 l2)
    rcases List.mem_cons.mp hp with rfl | hp
    · exact Nat.ne_of_gt l11
    · exact h1 p hp
  · intro p hp
    rcases List.mem_cons.mp hp with rfl | hp
    · exact Nat.ne_of_gt (Nat.lt_trans l12 l2)
    rcases List.mem_cons.mp hp with rfl | hp
    · exact Nat.ne_of_gt l12
    · exact h2 p hp
set_option maxRecDepth 100000 in
set_option maxHeartbeats 8000000 in
theorem wait_ok (w : World) (lv : Lv) (R : Led) (b lo lw dk ao fa : Nat) (y : Wt) (k : Int) (t : Tok) (ws : List Wt) (ps : List Pt) (ov wv : List Value) (on wn : Nat) (hB : BdIn w R b lo lw dk) (hwv : All2 (WtIn w lv R) wv ws) (hov : All2 (NodeIn w R) ov ps) (hne : @Ne Nat lo lw) (hR1 : ∀ p ∈ R, @Ne Nat p.1 lo) (hR2 : ∀ p ∈ R, @Ne Nat p.1 lw) (ho : OpIn w R ao (opOf y)) (hF : FxIn w R fa (y.fx lv)) (hk0 : k = sortOf y) (hl1 : ws.length ≤ 900) :
    Calls w 219 [.ref b, .ref ao, .ref fa, .int k t] 6 ((lo, listOf (stk ov) on) :: (lw, listOf (stk wv) wn) :: R) (fun r led' => r = .none ∧ ∃ R', Grows R R' ∧ BSt w lv lo lw R' (y :: ws) ps led') := by
  unfold Calls
  intro p loose mean mg mb dp un gd cn cs a ccd cl outer A₀ base h₀ L m s Q E B F X N T hk hdp hun hret
  revert X; k_fill; intro X
  refine BdIn.use hB fun d t1 t2 t3 t4 t5 n hb1 hb2 => ?_
  have q1 := hwv.length
  refine wpAny_call ?_
  k_dflt ktr_enter
  refine letA ?_
  intro Ak
  k_steps
  exact hret _ _ _ _ (by assumption) (News.swap22 (by assumption)) (wait_end hk0 ho hF hov hwv hne hR1 hR2 (by assumption) (by assumption))
theorem allNe_cons {a x : Nat} {o : Obj} {R : Led} (h : @Ne Nat a x) (hr : ∀ p ∈ R, @Ne Nat p.1 x) : ∀ p ∈ (a, o) :: R, @Ne Nat p.1 x := fun p hp => (List.mem_cons.mp hp).elim (fun e => by rw [e]; exact h) (hr p)
theorem minus_lvl {lv : Lv} {x : Wt} {ws : List Wt} (h : (6 : Int) ≤ (x.fx lv).level) : ((x :: ws).head?.any fun w => decide ((6 : Int) ≤ (w.fx lv).level)) = true := by simpa using h
theorem minus_lvl' {lv : Lv} {x : Wt} {ws : List Wt} (h : ¬ (6 : Int) ≤ (x.fx lv).level) : ((x :: ws).head?.any fun w => decide ((6 : Int) ≤ (w.fx lv).level)) = false := by simpa using h
set_option maxRecDepth 100000 in
set_option maxHeartbeats 8000000 in
theorem of_minus_ok (w : World) (Rt : Led) : Calls w 149 [] 5 Rt (fun r led' => ∃ (a : Nat) (New : Led), r = .ref a ∧ led' = New ++ Rt ∧ Above New Rt ∧ FxIn w (New ++ []) a ⟨.left, 6⟩) := by
  unfold Calls
  intro p loose mean mg mb dp un gd cn cs a ccd cl outer A₀ base h₀ L m s Q E B F X N T hk hdp hun hret
  revert X; k_fill; intro X
  refine wpAny_call ?_
  k_dflt ktr_enter
  refine letA ?_
  intro Ak
  have mc131 : MarkC 131 := trivial
  k_steps
  unfold Stop
  rename News _ _ _ _ => N9
  rename Fr _ _ _ _ => F9
  refine Calls.use (mk_fx w Rt ⟨.left, 6⟩ _ _) (by k_asm) F9 (by k_asm) N9 (by k_asm) ?_ ?_ ?_ ?_
  · exact rfl
  · ktr_room
  · ktr_units
  clear F9 N9
  intro r9 l9 h' tk' F' N' P9
  revert N'
  apply opPost P9
  intro fa New hA hF0 N'
  k_steps
  exact hret _ _ _ _ (by assumption) (by assumption) ⟨fa, New, rfl, rfl, hA, by rw [List.append_nil]; exact hF0⟩
set_option maxRecDepth 100000 in
set_option maxHeartbeats 8000000 in
theorem minus_ok (w : World) (lv : Lv) (R : Led) (b lo lw dk ao : Nat) (ws : List Wt) (ps : List Pt) (ov wv : List Value) (on wn : Nat) (hB : BdIn w R b lo lw dk) (hwv : All2 (WtIn w lv R) wv ws) (hov : All2 (NodeIn w R) ov ps) (hne : @Ne Nat lo lw) (hR1 : ∀ p ∈ R, @Ne Nat p.1 lo) (hR2 : ∀ p ∈ R, @Ne Nat p.1 lw) (ho : OpIn w R ao .minus) (hl1 : ws.length ≤ 900) :
    CallsE w 233 [.ref b, .ref ao] 10 ((lo, listOf (stk ov) on) :: (lw, listOf (stk wv) wn) :: R) (fun r led' => (ws.head?.any fun w => decide ((6 : Int) ≤ (w.fx lv).level)) = false ∧ r = .none ∧ ∃ R', Grows R R' ∧ BSt w lv lo lw R' (.neg :: ws) ps led') R ((ws.head?.any fun w => decide ((6 : Int) ≤ (w.fx lv).level)) = true) := by
  unfold CallsE
  intro p loose mean mg mb dp un gd cn cs a ccd cl outer A₀ base h₀ L m s Q E B F X N T hk hdp hun hret hrse
  revert X; k_fill; intro X
  refine BdIn.use hB fun d t1 t2 t3 t4 t5 n hb1 hb2 => ?_
  refine OpIn.use ho fun d1 t11 t12 t13 t14 n1 hi1 hd1 => ?_
  have fz : Frozen R := trivial
  have mc149 : MarkC 149 := trivial
  have mc219 : MarkC 219 := trivial
  refine wpAny_call ?_
  k_dflt ktr_enter
  refine letA ?_
  intro Ak
  k_steps
  unfold Stop
  rename News _ _ _ _ => N9
  rename Fr _ _ _ _ => F9
  refine Calls.use (of_minus_ok w _) (by k_asm) F9 (by k_asm) N9 (by k_asm) ?_ ?_ ?_ ?_
  · exact rfl
  · ktr_room
  · ktr_units
  clear F9 N9
  intro r9 l9 h' tk' F' N' P9
  revert N'
  apply opPost P9
  intro fa New hA hF0 N'
  replace N' := news_out N'
  have n1 := above_ne1 hA hR1
  have n2 := above_ne2 hA hR2
  have gg : Grows R (New ++ R) := hA.grows sub2
  have hs := gg.1
  have hF' : FxIn w (New ++ R) fa ⟨.left, 6⟩ := hF0.mono fun p hp => List.mem_append.mpr (.inl (by simpa using hp))
  refine FxIn.use hF' fun d8 t81 t82 t83 t84 n8 hi8 hd8 => ?_
  cases hwv with
  | nil =>
    k_steps
    unfold Stop
    rename News _ _ _ _ => N9
    rename Fr _ _ _ _ => F9
    refine Calls.use ((wait_ok w lv (New ++ R) b lo lw dk ao fa .neg 1 _ [] ps ov _ _ _ (hB.mono hs) .nil (all2_up2 hs hov) hne n1 n2 (ho.mono hs) hF' rfl hl1).perm fun _ hp => .tail _ hp) (by k_asm) F9 (by k_asm) N9 (by k_asm) ?_ ?_ ?_ ?_
    · exact rfl
    · ktr_room
    · ktr_units
    · clear F9 N9
      intro r9 l9 h' tk' F' N' P9
      apply eq1_use P9
      intro P10
      refine ex1_2 P10 fun R3 hG3 hS3 => ?_
      k_steps
      exact hret _ _ _ _ (by assumption) (by assumption) ⟨rfl, rfl, R3, gg.trans hG3, hS3⟩
  | cons hx hws =>
    cases hx with
    | mk hx1 hx2 hx3 hx4 =>
    have hw0 := all2_up hs (All2.cons (WtIn.mk hx1 hx2 hx3 hx4) hws)
    refine FxIn.use hx4 fun d3 t31 t32 t33 t34 n3 hi3 hd3 => ?_
    k_steps
    · exact hrse _ _ _ _ (by assumption) (by assumption) (by assumption) (minus_lvl (by assumption))
    · unfold Stop
      rename News _ _ _ _ => N9
      rename Fr _ _ _ _ => F9
      refine Calls.use ((wait_ok w lv (New ++ R) b lo lw dk ao fa .neg 1 _ (_ :: _) ps ov _ _ _ (hB.mono hs) hw0 (all2_up2 hs hov) hne n1 n2 (ho.mono hs) hF' rfl hl1).perm fun _ hp => .tail _ hp) (by k_asm) F9 (by k_asm) N9 (by k_asm) ?_ ?_ ?_ ?_
      · exact rfl
      · ktr_room
      · ktr_units
      · clear F9 N9
        intro r9 l9 h' tk' F' N' P9
        apply eq1_use P9
        intro P10
        refine ex1_2 P10 fun R3 hG3 hS3 => ?_
        k_steps
        exact hret _ _ _ _ (by assumption) (by assumption) ⟨minus_lvl' (by assumption), rfl, R3, gg.trans hG3, hS3⟩
set_option maxRecDepth 100000 in
set_option maxHeartbeats 8000000 in
theorem operator_ok (w : World) (lv : Lv) (R : Led) (b lo lw dk ao : Nat) (od : Obj) (kvs : List (Str × Value)) (o : Op) (ws : List Wt) (ps : List Pt) (ov wv : List Value) (on wn : Nat) (hB : BdIn w R b lo lw dk) (hwv : All2 (WtIn w lv R) wv ws) (hov : All2 (NodeIn w R) ov ps) (hne : @Ne Nat lo lw) (hR1 : ∀ p ∈ R, @Ne Nat p.1 lo) (hR2 : ∀ p ∈ R, @Ne Nat p.1 lw) (ho : OpIn w R ao o) (hom : o ≠ .minus)
    (hd : (dk, od) ∈ R) (hD : od.IsDictOf (PySem.strKind PySem.Challenge.rw_og0006_01.row.prog w) kvs) (hK : KnIn w R kvs lv) (hL : LvOk lv) (hlo : (dk == sysModules) = false) (hl1 : ws.length ≤ 900) (hl2 : ps.length ≤ 900) (hn : bins ws + 1 = ps.length) :
    CallsE w 240 [.ref b, .ref ao] 14 ((lo, listOf (stk ov) on) :: (lw, listOf (stk wv) wn) :: R) (fun r led' => r = .none ∧ ∃ ws' ps' R', settle ptAlg lv (lv o) ws ps = some (ws', ps') ∧ Grows R R' ∧ BSt w lv lo lw R' (.bin o :: ws') ps' led' ∧ bins ws' + 1 = ps'.length ∧ ws'.length ≤ ws.length ∧ ps'.length ≤ ps.length) R (settle ptAlg lv (lv o) ws ps = none) := by
  unfold CallsE
  intro p loose mean mg mb dp un gd cn cs a ccd cl outer A₀ base h₀ L m s Q E B F X N T hk hdp hun hret hrse
  revert X; k_fill; intro X
  have hB0 := hB
  have ho0 := ho
  refine BdIn.use hB0 fun d t1 t2 t3 t4 t5 n hb1 hb2 => ?_
  refine OpIn.use ho0 fun d1 t11 t12 t13 t14 n1 hi1 hd1 => ?_
  have mc163 : MarkC 163 := trivial
  refine wpAny_call ?_
  k_dflt ktr_enter
  refine letA ?_
  intro Ak
  k_steps
  unfold Stop
  rename News _ _ _ _ => N9
  rename Fr _ _ _ _ => F9
  refine Calls.use (fixity_ok w R _ sub2 dk od kvs lv o _ hd hD hK hL hlo hom) (by k_asm) F9 (by k_asm) N9 (by k_asm) ?_ ?_ ?_ ?_
  · exact rfl
  · ktr_room
  · ktr_units
  clear F9 N9
  intro r9 l9 h' tk' F' N' P9
  revert N'
  apply opPost P9
  intro fa New hA hF N'
  replace N' := news_out N'
  have n1 := above_ne1 hA hR1
  have n2 := above_ne2 hA hR2
  have gg : Grows R (New ++ R) := hA.grows sub2
  have hs := gg.1
  have mc247 : MarkC 247 := trivial
  k_steps
  unfold Stop
  rename News _ _ _ _ => N9
  rename Fr _ _ _ _ => F9
  refine CallsE.use (settle_ok w lv (New ++ R) b lo lw dk fa (lv o) _ ws ps ov wv _ _ (hB.mono hs) (all2_up hs hwv) (all2_up2 hs hov) hne n1 n2 hF hl1 hl2 hn) (by k_asm) F9 (by k_asm) N9 (by k_asm) ?_ ?_ ?_ ?_ ?_
  · exact rfl
  · ktr_room
  · ktr_units
  · clear F9 N9
    intro r9 l9 h' tk' F' N' P9
    revert N'
    apply setPost_use P9
    intro ws' ps' R2 ov2 wv2 on2 wn2 hset hG2 hwv2 hov2 hne2 hR12 hR22 hb2' hl12 hl22 N'
    have hs2 := hG2.1
    have mc219 : MarkC 219 := trivial
    k_steps
    unfold Stop
    rename News _ _ _ _ => N9
    rename Fr _ _ _ _ => F9
    refine Calls.use (wait_ok w lv R2 b lo lw dk ao fa (.bin o) 0 _ ws' ps' ov2 wv2 _ _ ((hB.mono hs).mono hs2) hwv2 hov2 hne2 hR12 hR22 ((ho.mono hs).mono hs2) (hF.mono hs2) rfl (Nat.le_trans hl12 hl1)) (by k_asm) F9 (by k_asm) N9 (by k_asm) ?_ ?_ ?_ ?_
    · exact rfl
    · ktr_room
    · ktr_units
    clear F9 N9
    intro r9 l9 h' tk' F' N' P9
    apply eq1_use P9
    intro P10
    refine ex1_2 P10 fun R3 hG3 hS3 => ?_
    k_steps
    exact hret _ _ _ _ (by assumption) (by assumption) ⟨rfl, _, _, _, hset, (gg.trans hG2).trans hG3, hS3, hb2', hl12, hl22⟩
  · clear F9 N9
    intro e9 g9 h9 tk9 F9 U9 R9 P9
    k_steps
    exact hrse _ _ _ _ (by assumption) (by assumption) (RaisedN.sub (by assumption) hs) P9
local macro_rules | `(tactic| walk_at "exec While BoolOp cons nil") => sq [stop1 "MarkStop"]
theorem stk_first {prog : Program} {w : World} {A : Around} {E : Value → Shared → Prop} {s : Shared} {h₀ : Heap} {L D : Addr} {news : Led} {n : Nat} {v : Value} {value slice : PySem.Expr} {u : Tok} {Q : Value → Shared → Prop} (N : News h₀ L s.heap news) (hm : (D, listOf (stk [v]) n) ∈ news) (h : Q v s)
    (hs : subscripted slice false (.ref D) (.int 0 u) = operate [.ref D, .int 0 u] (getItem (.ref D) (.int 0 u)) := by with_unfolding_all rfl) :
    wpAny (model prog w) A (subscriptTail value slice (.ref D) (.int 0 u)) Q E s := by
  have e : stk [v] = [v].toArray := by unfold stk; rfl
  rw [e] at hm
  exact item_litK (vs := [v]) ⟨_, (N _ hm).1, rfl, n, rfl⟩ (by decide) (by decide) rfl h hs
local macro_rules | `(tactic| walk_at "subscriptTail") => sq [atSub "Value.int 0 _", dk (ru "stk_first" "am_w")]
noncomputable def WhJ (w : World) (lv : Lv) (lo lw : Nat) (R : Led) (ws : List Wt) (ps : List Pt) (m₀ : Loc) (n : Nat) (m : Loc) (news : Led) : Prop :=
  ∃ (ws' : List Wt) (ps' : List Pt) (R' : Led), n = ws'.length ∧ m = m₀ ∧ Grows R R' ∧ BSt w lv lo lw R' ws' ps' news ∧ bins ws' + 1 = ps'.length ∧ ws'.length ≤ ws.length ∧ ps'.length ≤ ps.length ∧ whole ptAlg ws' ps' = whole ptAlg ws ps
theorem WhJ.use {w : World} {lv : Lv} {lo lw : Nat} {R : Led} {ws : List Wt} {ps : List Pt} {m₀ : Loc} {n : Nat} {m : Loc} {news : Led} {C : Nat → Loc → Led → Prop} (h : WhJ w lv lo lw R ws ps m₀ n m news) (k : ∀ (ws' : List Wt) (ps' : List Pt) (R' : Led) (ov wv : List Value) (on wn : Nat), Grows R R' → All2 (WtIn w lv R') wv ws' → All2 (NodeIn w R') ov ps' → @Ne Nat lo lw → (∀ p ∈ R', @Ne Nat p.1 lo) → (∀ p ∈ R', @Ne Nat p.1 lw) → bins ws' + 1 = ps'.length → ws'.length ≤ ws.length → ps'.length ≤ ps.length → whole ptAlg ws' ps' = whole ptAlg ws ps → C ws'.length m₀ ((lo, listOf (stk ov) on) :: (lw, listOf (stk wv) wn) :: R')) : C n m news := by
  obtain ⟨ws', ps', R', rfl, rfl, b, ⟨ov, wv, on, wn, rfl, h1, h2, h3, h4, h5⟩, c1, c2, c3, c4⟩ := h
  exact k ws' ps' R' ov wv on wn b h1 h2 h3 h4 h5 c1 c2 c3 c4
theorem whole_some {x : Wt} {ws : List Wt} {ps ps9 : List Pt} (h : reduce1 ptAlg x ps = some ps9) : whole ptAlg (x :: ws) ps = whole ptAlg ws ps9 := by simp [wh1, wh2, h]
theorem whole_none {x : Wt} {ws : List Wt} {ps : List Pt} (h : reduce1 ptAlg x ps = none) : whole ptAlg (x :: ws) ps = none := by simp [wh1, wh2, h]
set_option maxRecDepth 100000 in
set_option maxHeartbeats 8000000 in
theorem whole_ok (w : World) (lv : Lv) (R : Led) (b lo lw dk : Nat) (ws : List Wt) (ps : List Pt) (ov wv : List Value) (on wn : Nat) (hB : BdIn w R b lo lw dk) (hwv : All2 (WtIn w lv R) wv ws) (hov : All2 (NodeIn w R) ov ps) (hne : @Ne Nat lo lw) (hR1 : ∀ p ∈ R, @Ne Nat p.1 lo) (hR2 : ∀ p ∈ R, @Ne Nat p.1 lw) (hl1 : ws.length ≤ 900) (hl2 : ps.length ≤ 900) (hn : bins ws + 1 = ps.length) :
    CallsE w 268 [.ref b] 12 ((lo, listOf (stk ov) on) :: (lw, listOf (stk wv) wn) :: R) (fun r led' => ∃ q R', whole ptAlg ws ps = some [q] ∧ (∀ p ∈ R, p ∈ R') ∧ NodeIn w R' r q ∧ led' = R') R (whole ptAlg ws ps = none) := by
  unfold CallsE
  intro p loose mean mg mb dp un gd cn cs a ccd cl outer A₀ base h₀ L m s Q E B F X N T hk hdp hun hret hrse
  revert X; k_fill; intro X
  have ms : MarkStop := trivial
  refine wpAny_call ?_
  k_dflt ktr_enter
  refine letA ?_
  intro Ak
  k_steps
  unfold Stop
  rename News _ _ _ _ => N1
  rename Fr _ _ _ _ => F1
  refine while_J (WhJ w lv lo lw R ws ps) _ F1 N1 (by passes_own) ⟨ws, ps, R, rfl, rfl, Grows.refl _, ⟨_, _, _, _, rfl, hwv, hov, hne, hR1, hR2⟩, hn, Nat.le_refl _, Nat.le_refl _, rfl⟩ ?_
  intro n1 m₁ news₁ h₁ tk₁ F2 N2 hJ
  revert F2 N2
  apply WhJ.use hJ
  intro ws' ps' R' ov' wv' on' wn' hG hwv' hov' hne' hR1' hR2' hb' hl1' hl2' hset F2 N2
  clear F1 N1 hwv hov
  have hs' := hG.1
  have hB' := hB.mono hs'
  have hB0 := hB'
  refine BdIn.use hB0 fun d t1 t2 t3 t4 t5 n hb1 hb2 => ?_
  have hw0 := hwv'
  cases hwv' with
  | nil =>
    have q1 := hov'.length
    cases hov' with
    | nil => simp [bi1, bi2, bi3] at hb'
    | cons hq hov' =>
    cases hov' with
    | cons _ _ => simp [bi1, bi2, bi3] at hb'
    | nil =>
    k_steps
    exact hret _ _ _ _ (by assumption) (News.sub (News.sub (by assumption) fun _ hp => .tail _ hp) fun _ hp => hp) ⟨_, _, hset.symm, fun p hp => sub2 p (hs' p hp), hq.mono sub2, rfl⟩
  | cons hx hws =>
    cases hx with
    | mk hx1 hx2 hx3 hx4 =>
    have mc254 : MarkC 254 := trivial
    k_steps
    unfold Stop
    rename News _ _ _ _ => N9
    rename Fr _ _ _ _ => F9
    refine CallsE.use ((reduce_use w lv R' b lo lw dk .none _ _ ps' ov' _ _ _ hB' hw0 hov' hne' hR1' hR2' (by simp only [List.length_cons] at hl1'; omega) (by omega) (by omega)).perm fun _ hp => .tail _ hp) (by k_asm) F9 (by k_asm) N9 (by k_asm) ?_ ?_ ?_ ?_ ?_
    · exact rfl
    · ktr_room
    · ktr_units
    · clear F9 N9
      intro r9 l9 h' tk' F' N' P9
      revert N'
      apply redPost_use P9
      intro ps9 R9 ov9 wv9 on9 wn9 e2 hG9 hs9 hwv9 hov9 hne9 hR19 hR29 N'
      k_steps
      have hl := reduce_len e2
      rw [bins_cons] at hb'
      refine WhileStep2.go (by assumption) (by assumption) (Nat.lt_succ_self _) ⟨_, _, _, rfl, rfl, hG.trans hG9, ⟨_, _, _, _, rfl, hwv9, hov9, hne9, hR19, hR29⟩, hl.2 _ hb', ?_, Nat.le_trans hl.1 hl2', (whole_some e2).symm.trans hset⟩
      simp only [List.length_cons] at hl1'; omega
    · clear F9 N9
      intro e9 g9 h9 tk9 F9 U9 R9 P9
      k_steps
      exact hrse _ _ _ _ (by assumption) (by assumption) (RaisedN.sub (by assumption) hs') (hset.symm.trans (whole_none P9))
section
variable {prog : Program} {w : World} {A : Around} {E : Value → Shared → Prop} {s : Shared} {env : Env} {h₀ : Heap} {x : Str} {body : List Stmt} {Q : Flow → Shared → Prop}
theorem loop_walksP {I : Addr} {fp : List Addr} {n : Nat} {P : Nat → Value → Prop} {St : Nat → Heap → Prop} {m₀ : Loc} {news : Led} (J : Nat → Loc → Led → Prop) (P0 : Obj → Prop)
    (W : Walks prog w A I fp [I] n P St) (hfp : env.locals ∉ fp) (hI : h₀.get? I = none) (hnI : ∀ p ∈ news, p.1 ≠ I) (hst : St 0 s.heap) (hstI : ∀ i h, St i h → ∃ o, h.get? I = some o ∧ P0 o)
    (F : Fr h₀ env.locals s.heap m₀) (N : News h₀ env.locals s.heap news) (hj : J 0 m₀ news)
    (kl : Led) (hk : ∀ i m news, J i m news → ∀ p ∈ kl, p ∈ news) (hfk : ∀ b ∈ fp, b ≠ I → ∃ o, (b, o) ∈ kl)
    (turn : ∀ i v m₁ news₁ h tk oI, P0 oI → i < n → P i v → J i m₁ news₁ → (∀ p ∈ news₁, p.1 ≠ I) → Fr h₀ env.locals h (fun y => if y = x then some v else m₁ y) → News h₀ env.locals h ((I, oI) :: news₁) →
      wpAny (model prog w) A (execs body env) (TurnPost h₀ env.locals I oI (J (i + 1)) s Q) E { s with heap := h, toks := tk })
    (done : ∀ m₁ news₁ h tk, J n m₁ news₁ → Fr h₀ env.locals h m₁ → News h₀ env.locals h news₁ → Q .next { s with heap := h, toks := tk }) :
    LoopAtV prog w A h₀ env x body Q E (.ref I) s := by
  refine ⟨I, fp, [I], n, P, St, m₀, news, J, rfl, W, hfp, ?_, ?_, hst, F, N, hj, ?_, ?_⟩
  · intro b hb; rw [List.mem_singleton.mp hb]; exact hI
  · intro p hp hb; exact hnI p hp (List.mem_singleton.mp hb)
  · rintro i v m₁ news₁ s₁ own ⟨h, tk, rfl⟩ hin hP hJ hoff hown hown2 hown3 hst' F₁ N₁
    have hnI₁ : ∀ p ∈ news₁, p.1 ≠ I := fun p hp e => hoff p hp (List.mem_singleton.mpr e)
    obtain ⟨oI, hoI, hP0⟩ := hstI _ _ hst'
    have hIfp : I ∈ fp := W.sub I (List.mem_singleton.mpr rfl)
    have hmem : (I, oI) ∈ own := hown3 I hIfp hI oI hoI
    have N₂ : News h₀ env.locals h ((I, oI) :: news₁) := by
      intro p hp
      rcases List.mem_cons.mp hp with rfl | hp
      · exact N₁ _ (List.mem_append.mpr (.inl hmem))
      · exact N₁ _ (List.mem_append.mpr (.inr hp))
    have fin : ∀ s', (∃ h' tk' m₂ news₂, s' = { s with heap := h', toks := tk' } ∧ Fr h₀ env.locals h' m₂ ∧ News h₀ env.locals h' ((I, oI) :: news₂) ∧ (∀ p ∈ news₂, p.1 ≠ I) ∧ J (i + 1) m₂ news₂) →
        LoopStepU h₀ env.locals [I] own (J (i + 1)) { s with heap := h, toks := tk } .next s' := by
      rintro s' ⟨h', tk', m₂, news₂, rfl, F', N', hn, hJ'⟩
      refine ⟨rfl, h', tk', m₂, news₂, rfl, F', ?_, fun p hp hq => hn p hp (List.mem_singleton.mp hq), hJ'⟩
      intro p hp
      rcases List.mem_append.mp hp with hp | hp
      · by_cases e : p.1 = I
        · have e2 := hown2 p hp
          rw [e, hoI] at e2
          have e3 : p = (I, oI) := Prod.ext e (Option.some.inj e2).symm
          rw [e3]
          exact N' _ (.head _)
        · obtain ⟨o, ho⟩ := hfk p.1 (hown p hp) e
          have h9 := (N₁ _ (List.mem_append.mpr (.inr (hk _ _ _ hJ _ ho)))).1
          have e2 := hown2 p hp
          rw [show h.get? p.1 = some o from h9] at e2
          have e3 : p = (p.1, o) := Prod.ext rfl (Option.some.inj e2).symm
          rw [e3]
          exact N' _ (.tail _ (hk _ _ _ hJ' _ ho))
      · exact N' _ (.tail _ hp)
    refine wpAny_mono (turn i v m₁ news₁ h tk oI hP0 hin hP hJ hnI₁ F₁ N₂) (fun f s₂ p => ?_) fun _ _ e => e
    cases f with
    | ret v => exact .ret p
    | brk => exact .brk p
    | next => exact .next (fin _ p)
    | cont => exact .cont (fin _ p)
  · rintro h' tk m' news' F' N' _ hJ
    exact done m' news' h' tk hJ F' N'
theorem iter_listP {l : Addr} {vs : Array Value} {n : Nat} {m₀ : Loc} {news : Led} (J : Loc → Addr × Obj → Nat → Loc → Led → Prop) (hh : A.handled = none)
    (F : Fr h₀ env.locals s.heap m₀) (N : News h₀ env.locals s.heap news) (hl : (l, listOf vs n) ∈ news) (hj : J m₀ (l, listOf vs n) 0 m₀ news)
    (hk : ∀ i m news, J m₀ (l, listOf vs n) i m news → (l, listOf vs n) ∈ news)
    (turn : ∀ (I : Nat) i v m₁ news₁ h tk oI, oI.cls = .type "list_iterator" → vs[i]? = some v → J m₀ (l, listOf vs n) i m₁ news₁ → (∀ p ∈ news₁, p.1 ≠ I) → Fr h₀ env.locals h (fun y => if y = x then some v else m₁ y) → News h₀ env.locals h ((I, oI) :: news₁) →
      wpAny (model prog w) A (execs body env) (TurnPost h₀ env.locals I oI (J m₀ (l, listOf vs n) (i + 1)) s Q) E { s with heap := h, toks := tk })
    (done : ∀ m₁ news₁ h tk, J m₀ (l, listOf vs n) vs.size m₁ news₁ → Fr h₀ env.locals h m₁ → News h₀ env.locals h news₁ → Q .next { s with heap := h, toks := tk }) :
    wpAny (model prog w) A (pyIter (.ref l)) (fun it s₂ => LoopAtV prog w A h₀ env x body Q E it s₂) E s := by
  have hls : s.heap.IsList l vs := listOf_isList (N _ hl).1
  have hlt : l < s.heap.objs.size := Heap.lt_size (N _ hl).1
  refine wpAny_pyIter_list hls ?_
  have W := Walks.list (prog := prog) (w := w) hh s.heap.objs.size l (Nat.ne_of_lt hlt) vs
  refine loop_walksP (s := { s with heap := _ }) (J m₀ (l, listOf vs n)) (fun o => o.cls = .type "list_iterator") W ?_ (next_is_new F) (fun p hp e => absurd (Heap.lt_size (N p hp).1) (by rw [e]; exact Nat.lt_irrefl _))
    ⟨⟨_, Heap.get?_push_size _ rfl, rfl, rfl⟩, hls.push _⟩ (fun i h st => let ⟨⟨o, ho, hc, _⟩, _⟩ := st; ⟨o, ho, hc⟩) (F.push _) (fun p hp => ⟨Heap.get?_push_of_some _ (N p hp).1, (N p hp).2⟩) hj [(l, listOf vs n)] ?_ ?_ ?_ done
  · intro hm
    rcases List.mem_cons.mp hm with e | hm
    · exact absurd F.ns.lt (e ▸ Nat.lt_irrefl _)
    · exact (N _ hl).2.1 (List.mem_singleton.mp hm).symm
  · intro i m nw hJ p hp
    rw [List.mem_singleton.mp hp]; exact hk i m nw hJ
  · intro b hb hne
    rcases List.mem_cons.mp hb with e | hb
    · exact absurd e hne
    · exact ⟨_, by rw [List.mem_singleton.mp hb]; exact .head _⟩
  · intro i v m₁ news₁ h tk oI hc9 _ hv hJ hn F' N'
    exact turn _ i v m₁ news₁ h tk oI hc9 hv hJ hn F' N'
end
/-- An item of a row. -/
inductive ItIn (w : World) (R : Led) : Value → RE → Prop
  | num {v : Value} {k : Int} : NodeIn w R v (.lit k) → ItIn w R v (.num k)
  | var {v : Value} : NodeIn w R v .var → ItIn w R v .var
  | op {a : Nat} {o : Op} : OpIn w R a o → ItIn w R (.ref a) (.op o)
  | minus {a : Nat} : OpIn w R a .minus → ItIn w R (.ref a) .minus
theorem ItIn.mono {w : World} {R R' : Led} (hs : ∀ p ∈ R, p ∈ R') {v : Value} {x : RE} (h : ItIn w R v x) : ItIn w R' v x := by
  cases h with
  | num h => exact .num (h.mono hs)
  | var h => exact .var (h.mono hs)
  | op h => exact .op (h.mono hs)
  | minus h => exact .minus (h.mono hs)
/-- What is no list iterator stays. -/
noncomputable def SubI (R R' : Led) : Prop := ∀ p ∈ R, p.2.cls ≠ .type "list_iterator" → p ∈ R'
theorem FxIn.monoI {w : World} {R R' : Led} (hs : SubI R R') {a : Nat} {f : Fx} (h : FxIn w R a f) : FxIn w R' a f := by
  obtain ⟨d, t1, t2, t3, t4, n, h1, h2⟩ := h
  exact ⟨d, t1, t2, t3, t4, n, hs _ h1 (by intro e; cases e), hs _ h2 (by intro e; exact absurd (Value.type.inj e) (by decide))⟩
theorem OpIn.monoI {w : World} {R R' : Led} (hs : SubI R R') {a : Nat} {o : Op} (h : OpIn w R a o) : OpIn w R' a o := by
  obtain ⟨d, t1, t2, t3, t4, n, h1, h2⟩ := h
  exact ⟨d, t1, t2, t3, t4, n, hs _ h1 (by intro e; cases e), hs _ h2 (by intro e; exact absurd (Value.type.inj e) (by decide))⟩
theorem NodeIn.monoI {w : World} {R R' : Led} (hs : SubI R R') {v : Value} {p : Pt} (h : NodeIn w R v p) : NodeIn w R' v p := by
  induction h with
  | var h1 h2 => exact .var (hs _ h1 (by intro e; cases e)) (hs _ h2 (by intro e; exact absurd (Value.type.inj e) (by decide)))
  | lit h1 h2 => exact .lit (hs _ h1 (by intro e; cases e)) (hs _ h2 (by intro e; exact absurd (Value.type.inj e) (by decide)))
  | con h1 h2 h3 _ _ i1 i2 => exact .con (hs _ h1 (by intro e; cases e)) (hs _ h2 (by intro e; exact absurd (Value.type.inj e) (by decide))) (hs _ h3 (by intro e; exact absurd (Value.type.inj e) (by decide))) i1 i2
theorem WtIn.monoI {w : World} {lv : Lv} {R R' : Led} (hs : SubI R R') {v : Value} {x : Wt} (h : WtIn w lv R v x) : WtIn w lv R' v x := by
  cases h with
  | mk h1 h2 h3 h4 => exact .mk (hs _ h1 (by intro e; cases e)) (hs _ h2 (by intro e; exact absurd (Value.type.inj e) (by decide))) (h3.monoI hs) (h4.monoI hs)
/-- The state without the loop's own iterator. -/
theorem BSt.pull {w : World} {lv : Lv} {lo lw I : Nat} {oI : Obj} {R R1 : Led} {ws : List Wt} {ps : List Pt} {led : Led} (hI : oI.cls = .type "list_iterator") (hRI : ∀ p ∈ R, @Ne Nat p.1 I) (g : Grows ((I, oI) :: R) R1) (h : BSt w lv lo lw R1 ws ps led) :
    ∃ (R' : Led) (ov wv : List Value) (on wn : Nat), Grows R R' ∧ (∀ p ∈ (I, oI) :: (lo, listOf (stk ov) on) :: (lw, listOf (stk wv) wn) :: R', p ∈ led) ∧ All2 (WtIn w lv R') wv ws ∧ All2 (NodeIn w R') ov ps ∧ (∀ p ∈ R', @Ne Nat p.1 I) ∧ (∀ p ∈ R', @Ne Nat p.1 lo) ∧ (∀ p ∈ R', @Ne Nat p.1 lw) := by
  obtain ⟨ov, wv, on, wn, rfl, hw, ho, hne, h1, h2⟩ := h
  obtain ⟨R', g', n', s1, s2⟩ := Grows.pullM (M := [(I, oI)]) g (fun p hp q hq => by rw [List.mem_singleton.mp hq]; exact hRI p hp)
  have s9 : SubI R1 R' := fun p hp hc => (s2 p hp).elim (fun e => by rw [List.mem_singleton.mp e] at hc; exact absurd hI hc) id
  have s8 : ∀ p ∈ R', p ∈ R1 := fun p hp => s1 p (List.mem_append.mpr (.inr hp))
  refine ⟨R', ov, wv, on, wn, g', ?_, hw.mono fun _ _ x => x.monoI s9, ho.mono fun _ _ x => x.monoI s9, fun p hp => n' p hp _ (.head _), fun p hp => h1 p (s8 p hp), fun p hp => h2 p (s8 p hp)⟩
  intro p hp
  rcases List.mem_cons.mp hp with rfl | hp
  · exact .tail _ (.tail _ (s1 _ (.head _)))
  rcases List.mem_cons.mp hp with rfl | hp
  · exact .head _
  rcases List.mem_cons.mp hp with rfl | hp
  · exact .tail _ (.head _)
  · exact .tail _ (.tail _ (s8 p hp))
noncomputable def TkJ (w : World) (lv : Lv) (lo lw : Nat) (R : Led) (row : List RE) (m₀ : Loc) (_ : Addr × Obj) (i : Nat) (m : Loc) (news : Led) : Prop :=
  ∃ (due : Bool) (ws : List Wt) (ps : List Pt) (R' : Led) (u : Option Value), m = (fun y => if y = Str.ofString "is_due" then some (.bool due) else if y = Str.ofString "item" then u else m₀ y) ∧ Grows R R' ∧ BSt w lv lo lw R' ws ps news ∧ WF due (row.drop i) ∧
    takeAll ptAlg lv (row.drop i) due ws ps = takeAll ptAlg lv row true [] [] ∧ bins ws + (if due then 0 else 1) = ps.length ∧ ws.length ≤ i ∧ ps.length ≤ i
theorem TkJ.use {w : World} {lv : Lv} {lo lw : Nat} {R : Led} {row : List RE} {m₀ : Loc} {x : Addr × Obj} {i : Nat} {m : Loc} {news : Led} {C : Loc → Led → Prop} (h : TkJ w lv lo lw R row m₀ x i m news) (k : ∀ (due : Bool) (ws : List Wt) (ps : List Pt) (R' : Led) (u : Option Value) (ov wv : List Value) (on wn : Nat), Grows R R' → All2 (WtIn w lv R') wv ws → All2 (NodeIn w R') ov ps → @Ne Nat lo lw → (∀ p ∈ R', @Ne Nat p.1 lo) → (∀ p ∈ R', @Ne Nat p.1 lw) → WF due (row.drop i) →
    takeAll ptAlg lv (row.drop i) due ws ps = takeAll ptAlg lv row true [] [] → bins ws + (if due then 0 else 1) = ps.length → ws.length ≤ i → ps.length ≤ i → C (fun y => if y = Str.ofString "is_due" then some (.bool due) else if y = Str.ofString "item" then u else m₀ y) ((lo, listOf (stk ov) on) :: (lw, listOf (stk wv) wn) :: R')) : C m news := by
  obtain ⟨due, ws, ps, R', u, rfl, b, ⟨ov, wv, on, wn, rfl, h1, h2, h3, h4, h5⟩, c1, c2, c3, c4, c5⟩ := h
  exact k due ws ps R' u ov wv on wn b h1 h2 h3 h4 h5 c1 c2 c3 c4 c5
theorem BSt.pullC {w : World} {lv : Lv} {lo lw I : Nat} {oI : Obj} {R R1 : Led} {ws : List Wt} {ps : List Pt} {led : Led} {C : Prop} (hI : oI.cls = .type "list_iterator") (hRI : ∀ p ∈ R, @Ne Nat p.1 I) (g : Grows ((I, oI) :: R) R1) (h : BSt w lv lo lw R1 ws ps led) (k : ∀ (R' : Led) (ov wv : List Value) (on wn : Nat), Grows R R' → (∀ p ∈ (I, oI) :: (lo, listOf (stk ov) on) :: (lw, listOf (stk wv) wn) :: R', p ∈ led) → All2 (WtIn w lv R') wv ws → All2 (NodeIn w R') ov ps → (∀ p ∈ R', @Ne Nat p.1 I) → (∀ p ∈ R', @Ne Nat p.1 lo) → (∀ p ∈ R', @Ne Nat p.1 lw) → C) : C := by
  obtain ⟨R', ov, wv, on, wn, a, b, c, d, e, f, g⟩ := BSt.pull hI hRI g h
  exact k R' ov wv on wn a b c d e f g
theorem loc_init {a b : Str} {v : Option Value} {m : Loc} (h : m a = v) : m = fun y => if y = a then v else if y = b then m b else m y := by
  funext y
  by_cases e : y = a
  · rw [if_pos e, e, h]
  · rw [if_neg e]
    by_cases e2 : y = b
    · rw [if_pos e2, e2]
    · rw [if_neg e2]
set_option maxRecDepth 100000 in
set_option maxHeartbeats 8000000 in
theorem TkJ.put {w : World} {lv : Lv} {lo lw I : Nat} {oI : Obj} {R R' : Led} {row : List RE} {m₀ : Loc} {x : Addr × Obj} {i : Nat} {due : Bool} {ws : List Wt} {ps : List Pt} {u : Option Value} {g h : Heap} {L : Addr} {m : Loc} {news : Led} {s : Shared} {tk : Nat} {Q : Flow → Shared → Prop} {ov wv : List Value} {on wn : Nat} (F : Fr g L h m) (N : News g L h news)
    (hm : m = fun y => if y = Str.ofString "is_due" then some (.bool due) else if y = Str.ofString "item" then u else m₀ y) (hs : ∀ p ∈ (I, oI) :: (lo, listOf (stk ov) on) :: (lw, listOf (stk wv) wn) :: R', p ∈ news) (hloI : @Ne Nat lo I) (hlwI : @Ne Nat lw I) (hRI : ∀ p ∈ R', @Ne Nat p.1 I)
    (hG : Grows R R') (hw : All2 (WtIn w lv R') wv ws) (ho : All2 (NodeIn w R') ov ps) (hne : @Ne Nat lo lw) (h1 : ∀ p ∈ R', @Ne Nat p.1 lo) (h2 : ∀ p ∈ R', @Ne Nat p.1 lw) (hwf : WF due (row.drop (i + 1))) (ht : takeAll ptAlg lv (row.drop (i + 1)) due ws ps = takeAll ptAlg lv row true [] []) (hb : bins ws + (if due then 0 else 1) = ps.length) (hl1 : ws.length ≤ i + 1) (hl2 : ps.length ≤ i + 1) :
    TurnPost g L I oI (TkJ w lv lo lw R row m₀ x (i + 1)) s Q .next { s with heap := h, toks := tk } := by
  subst hm
  refine ⟨h, tk, _, (lo, listOf (stk ov) on) :: (lw, listOf (stk wv) wn) :: R', rfl, F, News.sub N hs, ?_, due, ws, ps, R', u, rfl, hG, ⟨_, _, _, _, rfl, hw, ho, hne, h1, h2⟩, hwf, ht, hb, hl1, hl2⟩
  intro p hp
  rcases List.mem_cons.mp hp with rfl | hp
  · exact hloI
  rcases List.mem_cons.mp hp with rfl | hp
  · exact hlwI
  · exact hRI p hp
theorem perm3 {a b c : Addr × Obj} {R : Led} : ∀ p ∈ b :: c :: a :: R, p ∈ a :: b :: c :: R := by grind
theorem locA {a b : Str} {v1 v2 u v : Option Value} {m : Loc} : (fun y => if y = a then v1 else if y = b then v else if y = a then v2 else if y = b then u else m y) = fun y => if y = a then v1 else if y = b then v else m y := by
  funext y
  by_cases e : y = a
  · simp only [if_pos e]
  · by_cases e2 : y = b
    · simp only [if_neg e, if_pos e2]
    · simp only [if_neg e, if_neg e2]
theorem locB {a b : Str} {v2 u v : Option Value} {m : Loc} (hab : a ≠ b) : (fun y => if y = b then v else if y = a then v2 else if y = b then u else m y) = fun y => if y = a then v2 else if y = b then v else m y := by
  funext y
  by_cases e : y = a
  · have e2 : y ≠ b := fun z => hab (e.symm.trans z)
    simp only [if_neg e2, if_pos e]
  · by_cases e2 : y = b
    · simp only [if_neg e, if_pos e2]
    · simp only [if_neg e, if_neg e2]
theorem drop_succ {row rest : List RE} {e : RE} {i : Nat} (h : row.drop i = e :: rest) : row.drop (i + 1) = rest := by
  rw [← List.drop_drop, h]; rfl
theorem drop_get {row : List RE} {e : RE} {i : Nat} (h : row[i]? = some e) : ∃ rest, row.drop i = e :: rest := by
  have hi := (List.getElem?_eq_some_iff.mp h).1
  exact ⟨row.drop (i + 1), by rw [List.drop_eq_getElem_cons hi, (List.getElem?_eq_some_iff.mp h).2]⟩
theorem it_split {w : World} {R : Led} {v : Value} {e : RE} {due : Bool} {rest : List RE} {C : Value → RE → Bool → Prop} (hv : ItIn w R v e) (hwf : WF due (e :: rest))
    (k1 : ∀ (a d n : Nat) (k : Int) (t1 t2 t3 t4 t5 : Tok), (a, instObj 334 d) ∈ R → (d, dictOf [ent w "place" t1 .none, ent w "kind" t2 (.str (Str.ofString "int") t3), ent w "value" t4 (.int k t5)] n) ∈ R → WF false rest → C (.ref a) (.num k) true)
    (k2 : ∀ (a d n : Nat) (t1 t2 t3 : Tok), (a, instObj 307 d) ∈ R → (d, dictOf [ent w "place" t1 .none, ent w "name" t2 (.str (Str.ofString "x") t3)] n) ∈ R → WF false rest → C (.ref a) .var true)
    (k3 : ∀ (a : Nat) (o : Op), OpIn w R a o → o ≠ .minus → WF true rest → C (.ref a) (.op o) false)
    (k4 : ∀ (a : Nat), OpIn w R a .minus → WF true rest → C (.ref a) .minus true) : C v e due := by
  cases hv with
  | num hn => cases hwf with
    | num hw => cases hn with
      | lit h1 h2 => exact k1 _ _ _ _ _ _ _ _ _ h1 h2 hw
  | var hn => cases hwf with
    | var hw => cases hn with
      | var h1 h2 => exact k2 _ _ _ _ _ _ h1 h2 hw
  | op ho => cases hwf with
    | op hm hw => exact k3 _ _ ho hm hw
  | minus ho => cases hwf with
    | mnum hw => exact k4 _ ho (.num hw)
    | mvar hw => exact k4 _ ho (.var hw)
set_option maxRecDepth 100000 in
set_option maxHeartbeats 8000000 in
theorem takeb_ok (w : World) (lv : Lv) (R : Led) (b lo lw dk li : Nat) (od : Obj) (kvs : List (Str × Value)) (items : Array Value) (nI : Nat) (row : List RE) (on wn : Nat) (hB : BdIn w R b lo lw dk) (hne : @Ne Nat lo lw) (hR1 : ∀ p ∈ R, @Ne Nat p.1 lo) (hR2 : ∀ p ∈ R, @Ne Nat p.1 lw)
    (hli : (li, listOf items nI) ∈ R) (hit : All2 (ItIn w R) items.toList row) (hwf : WF true row) (hrow : row.length ≤ 12)
    (hd : (dk, od) ∈ R) (hD : od.IsDictOf (PySem.strKind PySem.Challenge.rw_og0006_01.row.prog w) kvs) (hK : KnIn w R kvs lv) (hL : LvOk lv) (hlo : (dk == sysModules) = false) :
    CallsE w 261 [.ref b, .ref li] 18 ((lo, listOf (stk []) on) :: (lw, listOf (stk []) wn) :: R) (fun r led' => r = .none ∧ ∃ ws ps R', takeAll ptAlg lv row true [] [] = some (ws, ps) ∧ Grows R R' ∧ BSt w lv lo lw R' ws ps led' ∧ bins ws + 1 = ps.length ∧ ws.length ≤ 12 ∧ ps.length ≤ 12) R (takeAll ptAlg lv row true [] [] = none) := by
  unfold CallsE
  intro p loose mean mg mb dp un gd cn cs a ccd cl outer A₀ base h₀ L m s Q E B F X N T hk hdp hun hret hrse
  revert X; k_fill; intro X
  have hlen := hit.length
  rw [Array.length_toList] at hlen
  refine wpAny_call ?_
  k_dflt ktr_enter
  refine letA ?_
  intro Ak
  k_steps
  unfold Stop
  rename Fr _ _ _ _ => F1
  with_unfolding_all refine' For_invVF F1 ?hx ?hp ?_; (case hx => rfl); (case hp => rfl)
  k_steps
  rename Fr _ _ _ _ => F1
  rename News _ _ _ _ => N1
  refine iter_listP (l := li) (TkJ w lv lo lw R row) (by rfl) F1 N1 (.tail _ (.tail _ hli)) ⟨true, [], [], R, _, loc_init (if_pos rfl), Grows.refl _, ⟨_, _, _, _, rfl, .nil, .nil, hne, hR1, hR2⟩, hwf, rfl, rfl, Nat.le_refl _, Nat.le_refl _⟩ ?_ ?_ ?_
  · rintro i m news ⟨due, ws, ps, R', u, rfl, hG, ⟨ov, wv, on', wn', rfl, _⟩, _⟩
    exact .tail _ (.tail _ (hG.1 _ hli))
  · intro I i v₁ m₁ news₁ h tk oI hcI hi hJ
    apply TkJ.use hJ
    intro due ws ps R' u ov wv on' wn' hG hwv hov hne' hR1' hR2' hwf' ht hb hl1 hl2 hnI F2 N2
    clear F1 N1
    refine ex1_2 (All2.get hit (by simpa using hi)) fun e he hv => ?_
    refine ex1_1 (drop_get he) fun rest hdr => ?_
    have hi12 : i < 12 := Nat.lt_of_lt_of_le (List.getElem?_eq_some_iff.mp he).1 hrow
    have g1 : @Ne Nat lo I := hnI _ (.head _)
    have g2 : @Ne Nat lw I := hnI _ (.tail _ (.head _))
    have g3 : ∀ p ∈ R', @Ne Nat p.1 I := fun p hp => hnI p (.tail _ (.tail _ hp))
    have hs' := hG.1
    have hB' := hB.mono hs'
    have hB0 := hB'
    refine BdIn.use hB0 fun d t1 t2 t3 t4 t5 n hb1 hb2 => ?_
    rw [hdr] at hwf' ht
    replace hv := hv.mono hs'
    have z1 := hwv.length
    have z2 := hov.length
    (try k_fold)
    revert F2
    revert hb
    revert ht
    revert hdr
    revert he
    revert hi
    apply it_split hv hwf'
    · intro a9 d9 n9 k t91 t92 t93 t94 t95 hn1 hn2 hwr hi he hdr ht hb F2
      k_steps
      exact TkJ.put (by assumption) (by assumption) locA (fun _ h => h) g1 g2 g3 hG hwv (.cons (.lit hn1 hn2) hov) hne' hR1' hR2' (by rw [drop_succ hdr]; exact hwr) (by rw [drop_succ hdr]; exact ht) (congrArg (· + 1) hb) (Nat.le_succ_of_le hl1) (Nat.succ_le_succ hl2)
    · intro a9 d9 n9 t91 t92 t93 hn1 hn2 hwr hi he hdr ht hb F2
      k_steps
      exact TkJ.put (by assumption) (by assumption) locA (fun _ h => h) g1 g2 g3 hG hwv (.cons (.var hn1 hn2) hov) hne' hR1' hR2' (by rw [drop_succ hdr]; exact hwr) (by rw [drop_succ hdr]; exact ht) (congrArg (· + 1) hb) (Nat.le_succ_of_le hl1) (Nat.succ_le_succ hl2)
    · intro a9 o ho hom hwr hi he hdr ht hb F2
      have hRI : ∀ p ∈ (I, oI) :: R', @Ne Nat p.1 lo := allNe_cons (Ne.symm g1) hR1'
      have hRI2 : ∀ p ∈ (I, oI) :: R', @Ne Nat p.1 lw := allNe_cons (Ne.symm g2) hR2'
      have si : ∀ p ∈ R', p ∈ (I, oI) :: R' := fun _ hp => .tail _ hp
      have mc240 : MarkC 240 := trivial
      have ho0 := ho
      refine OpIn.use ho0 fun d1 t11 t12 t13 t14 n1 hi1 hd1 => ?_
      k_steps
      unfold Stop
      rename News _ _ _ _ => N9
      rename Fr _ _ _ _ => F9
      refine CallsE.use ((operator_ok w lv ((I, oI) :: R') b lo lw dk _ od kvs _ ws ps ov wv on' wn' (hB'.mono si) (all2_up si hwv) (all2_up2 si hov) hne' hRI hRI2 (ho.mono si) hom (si _ (hs' _ hd)) hD (fun o => ⟨fun h => (hK o).1 h |>.imp fun _ x => ⟨x.1, (x.2.mono hs').mono si⟩, (hK o).2⟩) hL hlo (by omega) (by omega) (by simpa using hb)).perm perm3) (by k_asm) F9 (by k_asm) N9 (by k_asm) ?_ ?_ ?_ ?_ ?_
      · exact rfl
      · ktr_room
      · ktr_units
      · clear F9 N9
        intro r9 l9 h' tk' F' N' P9
        apply eq1_use P9
        intro P10
        refine ex3_6 P10 fun ws' ps' R1 hset hG1 hS1 hb' hl1' hl2' => ?_
        refine BSt.pullC hcI g3 hG1 hS1 fun R2 ov2 wv2 on2 wn2 hG2 hmem hw2 ho2 hn2 h12 h22 => ?_
        replace N' := News.sub N' hmem
        k_steps
        exact TkJ.put (by assumption) (by assumption) locA (fun _ h => h) g1 g2 hn2 (hG.trans hG2) hw2 ho2 hne' h12 h22 (by rw [drop_succ hdr]; exact hwr) (by rw [drop_succ hdr, ← ht]; simp [tA1, tA2, tA3, tA4, tA5, hset]) (by simpa [bi1, bi2, bi3] using hb') (by simp only [List.length_cons]; omega) (by omega)
      · clear F9 N9
        intro e9 g9 h9 tk9 F9 U9 R9 P9
        k_steps
        exact hrse _ _ _ _ (by assumption) (by assumption) (RaisedN.sub (by assumption) fun p hp => si _ (hs' _ hp)) (ht.symm.trans (by simp [tA1, tA2, tA3, tA4, tA5, P9]))
    · intro a9 ho hwr hi he hdr ht hb F2
      have hRI : ∀ p ∈ (I, oI) :: R', @Ne Nat p.1 lo := allNe_cons (Ne.symm g1) hR1'
      have hRI2 : ∀ p ∈ (I, oI) :: R', @Ne Nat p.1 lw := allNe_cons (Ne.symm g2) hR2'
      have si : ∀ p ∈ R', p ∈ (I, oI) :: R' := fun _ hp => .tail _ hp
      have mc233 : MarkC 233 := trivial
      have ho0 := ho
      refine OpIn.use ho0 fun d1 t11 t12 t13 t14 n1 hi1 hd1 => ?_
      k_steps
      unfold Stop
      rename News _ _ _ _ => N9
      rename Fr _ _ _ _ => F9
      refine CallsE.use ((minus_ok w lv ((I, oI) :: R') b lo lw dk _ ws ps ov wv on' wn' (hB'.mono si) (all2_up si hwv) (all2_up2 si hov) hne' hRI hRI2 (ho.mono si) (by omega)).perm perm3) (by k_asm) F9 (by k_asm) N9 (by k_asm) ?_ ?_ ?_ ?_ ?_
      · exact rfl
      · ktr_room
      · ktr_units
      · clear F9 N9
        intro r9 l9 h' tk' F' N' P9
        obtain ⟨hset, P10⟩ := P9
        apply eq1_use P10
        intro P11
        refine ex1_2 P11 fun R1 hG1 hS1 => ?_
        refine BSt.pullC hcI g3 hG1 hS1 fun R2 ov2 wv2 on2 wn2 hG2 hmem hw2 ho2 hn2 h12 h22 => ?_
        replace N' := News.sub N' hmem
        k_steps
        exact TkJ.put (by assumption) (by assumption) (locB (by decide)) (fun _ h => h) g1 g2 hn2 (hG.trans hG2) hw2 ho2 hne' h12 h22 (by rw [drop_succ hdr]; exact hwr) (by rw [drop_succ hdr, ← ht]; simp only [tA1, tA2, tA3, tA4, tA5, hset]; rfl) (by simpa [bi1, bi2, bi3] using hb) (by simp only [List.length_cons]; omega) (by omega)
      · clear F9 N9
        intro e9 g9 h9 tk9 F9 U9 R9 P9
        k_steps
        exact hrse _ _ _ _ (by assumption) (by assumption) (RaisedN.sub (by assumption) fun p hp => si _ (hs' _ hp)) (ht.symm.trans (by simp only [tA1, tA2, tA3, tA4, tA5, P9]; rfl))
  · intro m₁ news₁ h tk hJ
    apply TkJ.use hJ
    intro due ws ps R' u ov wv on' wn' hG hwv hov hne' hR1' hR2' hwf' ht hb hl1 hl2 F2 N2
    clear F1 N1
    rw [List.drop_eq_nil_of_le (by omega)] at hwf' ht
    cases hwf' with
    | nil =>
    k_steps
    exact hret _ _ _ _ (by assumption) (by assumption) ⟨rfl, ws, ps, R', ht.symm, hG, ⟨_, _, _, _, rfl, hwv, hov, hne', hR1', hR2'⟩, hb, by omega, by omega⟩
theorem stk_nil : stk [] = #[] := by unfold stk; rfl
abbrev bdDict (w : World) (t1 t2 t3 t4 t5 : Tok) (dk lo lw n : Nat) : Obj := dictOf [ent w "known" t1 (.ref dk), ent w "make" t2 (.ref 370), ent w "negate" t3 (.ref 377), ent w "operands" t4 (.ref lo), ent w "waiting" t5 (.ref lw)] n
theorem takeb_use (w : World) (lv : Lv) (R : Led) (b d lo lw dk li : Nat) (od : Obj) (kvs : List (Str × Value)) (items : Array Value) (nI : Nat) (row : List RE) (t1 t2 t3 t4 t5 : Tok) (n no nw : Nat) (_l1 : ∀ p ∈ R, @LT.lt Nat _ p.1 d) (_l2 : @LT.lt Nat _ d b) (l3 : @LT.lt Nat _ b lo ∧ @LT.lt Nat _ d lo ∧ AllLt lo R) (l4 : @LT.lt Nat _ lo lw ∧ @LT.lt Nat _ b lw ∧ @LT.lt Nat _ d lw ∧ AllLt lw R)
    (hli : (li, listOf items nI) ∈ R) (hit : All2 (ItIn w R) items.toList row) (hwf : WF true row) (hrow : row.length ≤ 12)
    (hd : (dk, od) ∈ R) (hD : od.IsDictOf (PySem.strKind PySem.Challenge.rw_og0006_01.row.prog w) kvs) (hK : KnIn w R kvs lv) (hL : LvOk lv) (hlo : (dk == sysModules) = false) :
    CallsE w 261 [.ref b, .ref li] 18 ((lw, listOf #[] nw) :: (lo, listOf #[] no) :: (b, instObj 271 d) :: (d, bdDict w t1 t2 t3 t4 t5 dk lo lw n) :: R) (fun r led' => r = .none ∧ ∃ ws ps R', takeAll ptAlg lv row true [] [] = some (ws, ps) ∧ BdIn w R' b lo lw dk ∧ (∀ p ∈ R, p ∈ R') ∧ BSt w lv lo lw R' ws ps led' ∧ bins ws + 1 = ps.length ∧ ws.length ≤ 12 ∧ ps.length ≤ 12) R (takeAll ptAlg lv row true [] [] = none) := by
  have hs : ∀ p ∈ R, p ∈ (b, instObj 271 d) :: (d, bdDict w t1 t2 t3 t4 t5 dk lo lw n) :: R := sub2
  have hB : BdIn w ((b, instObj 271 d) :: (d, bdDict w t1 t2 t3 t4 t5 dk lo lw n) :: R) b lo lw dk := ⟨d, t1, t2, t3, t4, t5, n, .head _, .tail _ (.head _)⟩
  have n1 : ∀ p ∈ (b, instObj 271 d) :: (d, bdDict w t1 t2 t3 t4 t5 dk lo lw n) :: R, @Ne Nat p.1 lo := allNe_cons (Nat.ne_of_lt l3.1) (allNe_cons (Nat.ne_of_lt l3.2.1) fun p hp => Nat.ne_of_lt (allLt_mem l3.2.2 p hp))
  have n2 : ∀ p ∈ (b, instObj 271 d) :: (d, bdDict w t1 t2 t3 t4 t5 dk lo lw n) :: R, @Ne Nat p.1 lw := allNe_cons (Nat.ne_of_lt l4.2.1) (allNe_cons (Nat.ne_of_lt l4.2.2.1) fun p hp => Nat.ne_of_lt (allLt_mem l4.2.2.2 p hp))
  have C := takeb_ok w lv _ b lo lw dk li od kvs items nI row no nw hB (Nat.ne_of_lt l4.1) n1 n2 (hs _ hli) (hit.mono fun _ _ x => x.mono hs) hwf hrow (hs _ hd) hD (fun o => ⟨fun h => (hK o).1 h |>.imp fun _ x => ⟨x.1, x.2.mono hs⟩, (hK o).2⟩) hL hlo
  rw [stk_nil] at C
  intro p loose mean mg mb dp un gd cn cs a ccd cl outer A₀ base h₀ L m s Q E B F X N T hk hdp hun hret hrse
  refine C p loose mean mg mb dp un gd cn cs a ccd cl outer A₀ base h₀ L m s Q E B F X (News.sub N (by grind)) T hk hdp hun (fun r led' h' tk' F' N' P' => hret r led' h' tk' F' N' ?_) fun e g h' tk' F' U' RR EP => hrse e g h' tk' F' U' (RaisedN.sub RR hs) EP
  obtain ⟨e1, ws, ps, R', a1, a2, a3, a4, a5, a6⟩ := P'
  exact ⟨e1, ws, ps, R', a1, hB.mono a2.1, fun p hp => a2.1 p (hs p hp), a3, a4, a5, a6⟩
theorem takPost_use {w : World} {lv : Lv} {R : Led} {b lo lw dk : Nat} {row : List RE} {r : Value} {led' : Led} {C : Value → Led → Prop} (h : r = .none ∧ ∃ ws ps R', takeAll ptAlg lv row true [] [] = some (ws, ps) ∧ BdIn w R' b lo lw dk ∧ (∀ p ∈ R, p ∈ R') ∧ BSt w lv lo lw R' ws ps led' ∧ bins ws + 1 = ps.length ∧ ws.length ≤ 12 ∧ ps.length ≤ 12) (k : ∀ (ws : List Wt) (ps : List Pt) (R' : Led) (ov wv : List Value) (on wn : Nat), takeAll ptAlg lv row true [] [] = some (ws, ps) → BdIn w R' b lo lw dk → (∀ p ∈ R, p ∈ R') → All2 (WtIn w lv R') wv ws → All2 (NodeIn w R') ov ps → @Ne Nat lo lw → (∀ p ∈ R', @Ne Nat p.1 lo) → (∀ p ∈ R', @Ne Nat p.1 lw) → bins ws + 1 = ps.length → ws.length ≤ 12 → ps.length ≤ 12 → C .none ((lo, listOf (stk ov) on) :: (lw, listOf (stk wv) wn) :: R')) : C r led' := by
  obtain ⟨rfl, ws, ps, R', a, b, c, ⟨ov, wv, on, wn, rfl, h1, h2, h3, h4, h5⟩, c1, c2, c3⟩ := h
  exact k ws ps R' ov wv on wn a b c h1 h2 h3 h4 h5 c1 c2 c3
set_option maxRecDepth 100000 in
set_option maxHeartbeats 8000000 in
theorem resolved_ok (w : World) (lv : Lv) (R : Led) (dk li : Nat) (od : Obj) (kvs : List (Str × Value)) (items : Array Value) (nI : Nat) (row : List RE)
    (hli : (li, listOf items nI) ∈ R) (hit : All2 (ItIn w R) items.toList row) (hwf : WF true row) (hrow : row.length ≤ 12)
    (hd : (dk, od) ∈ R) (hD : od.IsDictOf (PySem.strKind PySem.Challenge.rw_og0006_01.row.prog w) kvs) (hK : KnIn w R kvs lv) (hL : LvOk lv) (hlo : (dk == sysModules) = false) :
    CallsE w 384 [.ref li, .ref dk] 24 R (fun r led' => ∃ q, parse ptAlg lv row = some q ∧ (∀ p ∈ R, p ∈ led') ∧ NodeIn w led' r q) R (parse ptAlg lv row = none) := by
  unfold CallsE
  intro p loose mean mg mb dp un gd cn cs a ccd cl outer A₀ base h₀ L m s Q E B F X N T hk hdp hun hret hrse
  revert X; k_fill; intro X
  refine wpAny_call ?_
  have fz : Frozen R := trivial
  have mc261 : MarkC 261 := trivial
  k_dflt ktr_enter
  refine letA ?_
  intro Ak
  k_steps
  unfold Stop
  rename News _ _ _ _ => N9
  rename Fr _ _ _ _ => F9
  refine CallsE.use (takeb_use w lv R _ _ _ _ dk li od kvs items nI row _ _ _ _ _ _ _ _ (by assumption) (by assumption) (by assumption) (by assumption) hli hit hwf hrow hd hD hK hL hlo) (by k_asm) F9 (by k_asm) N9 (by k_asm) ?_ ?_ ?_ ?_ ?_
  · exact rfl
  · ktr_room
  · ktr_units
  · clear F9 N9
    intro r9 l9 h' tk' F' N' P9
    revert N'
    apply takPost_use P9
    intro ws ps R1 ov wv on wn hta hB1 hs1 hwv hov hne hR1 hR2 hb hl1 hl2 N'
    refine BdIn.use hB1 fun d9 t91 t92 t93 t94 t95 n9 hb1 hb2 => ?_
    have mc268 : MarkC 268 := trivial
    k_steps
    unfold Stop
    rename News _ _ _ _ => N9
    rename Fr _ _ _ _ => F9
    refine CallsE.use (whole_ok w lv R1 _ _ _ dk ws ps ov wv on wn hB1 hwv hov hne hR1 hR2 (by omega) (by omega) hb) (by k_asm) F9 (by k_asm) N9 (by k_asm) ?_ ?_ ?_ ?_ ?_
    · exact rfl
    · ktr_room
    · ktr_units
    · clear F9 N9
      intro r9 l9 h' tk' F' N' P9
      refine ex2_4 P9 fun q R3 hw3 hs3 hq3 e3 => ?_
      subst e3
      k_steps
      exact hret _ _ _ _ (by assumption) (by assumption) ⟨q, by simp [parse, hta, hw3], fun p hp => hs3 p (hs1 p hp), hq3⟩
    · clear F9 N9
      intro e9 g9 h9 tk9 F9 U9 R9 P9
      k_steps
      exact hrse _ _ _ _ (by assumption) (by assumption) (RaisedN.sub (by assumption) hs1) (by simp [parse, hta, P9])
  · clear F9 N9
    intro e9 g9 h9 tk9 F9 U9 R9 P9
    k_steps
    exact hrse _ _ _ _ (by assumption) (by assumption) (by assumption) (by simp [parse, P9])
local macro_rules | `(tactic| walk_at "exec For Name Call cons nil") => sq [stop]
theorem locP_init {a b : Str} {v : Option Value} {m : Loc} (h : m a = v) : m = fun y => if y = a then v else if y = b then m b else m y := by
  funext y
  by_cases e : y = a
  · rw [if_pos e, e, h]
  · rw [if_neg e]
    by_cases e2 : y = b
    · rw [if_pos e2, e2]
    · rw [if_neg e2]
theorem locP {a b : Str} {v1 v2 u v : Option Value} {m : Loc} : (fun y => if y = a then v1 else if y = b then v else if y = a then v2 else if y = b then u else m y) = fun y => if y = a then v1 else if y = b then v else m y := by
  funext y
  by_cases e : y = a
  · simp only [if_pos e]
  · by_cases e2 : y = b
    · simp only [if_neg e, if_pos e2]
    · simp only [if_neg e, if_neg e2]
theorem mod_bound {x : Int} : 0 ≤ x.fmod 2147483629 + 17 ∧ x.fmod 2147483629 + 17 < 2^40 := by
  have h1 : 0 ≤ x.fmod 2147483629 := fmod_ge' (by decide)
  have h2 : x.fmod 2147483629 < 2147483629 := fmod_lt' (by decide)
  exact ⟨by omega, by omega⟩
theorem mod_bound2 {x : Int} : 0 ≤ x.fmod 2147483647 ∧ x.fmod 2147483647 < 2^40 := by
  have h1 : 0 ≤ x.fmod 2147483647 := fmod_ge' (by decide)
  have h2 : x.fmod 2147483647 < 2147483647 := fmod_lt' (by decide)
  exact ⟨h1, by omega⟩
theorem pool_range {n : Nat} (hn : n ≤ 63) {b : Int} (hb : b = if (20 : Int) < (n : Int) then 20 else (n : Int)) : Builtin.Range.rangeSize 0 b 1 = ((b.toNat : Nat) : Int) ∧ Builtin.Range.small 0 b 1 = true ∧ b.toNat ≤ 20 ∧ b.toNat ≤ n := by
  have h0 : 0 ≤ b ∧ b ≤ 20 ∧ b ≤ n := by rw [hb]; split <;> omega
  exact ⟨by rw [rangeSize_nat, Int.sub_zero], small_one (by decide) (by decide) (Int.le_trans (by decide) h0.1) (Int.lt_of_le_of_lt h0.2.1 (by decide)), Int.toNat_le.mpr h0.2.1, Int.toNat_le.mpr h0.2.2⟩
noncomputable def PoolJ (led : Led) (m₀ : Loc) (_i : Nat) (m : Loc) (news : Led) : Prop :=
  ∃ (M : Int) (t : Tok) (u : Option Value), m = (fun y => if y = Str.ofString "mixed" then some (.int M t) else if y = Str.ofString "k" then u else m₀ y) ∧ 0 ≤ M ∧ M < 2^40 ∧ news = led
theorem PoolJ.use {led : Led} {m₀ : Loc} {i : Nat} {m : Loc} {news : Led} {C : Loc → Led → Prop} (h : PoolJ led m₀ i m news) (k : ∀ (M : Int) (t : Tok) (u : Option Value), 0 ≤ M → M < 2^40 → C (fun y => if y = Str.ofString "mixed" then some (.int M t) else if y = Str.ofString "k" then u else m₀ y) led) : C m news := by
  obtain ⟨M, t, u, rfl, a, b, rfl⟩ := h
  exact k M t u a b
noncomputable def BigMid (g : Heap) (L : Addr) (m : Loc) (led : Led) (s s' : Shared) : Prop :=
  ∃ (h' : Heap) (tk' : Nat) (b : Int) (t : Tok) (m' : Loc), s' = { s with heap := h', toks := tk' } ∧ m' = (fun y => if y = Str.ofString "big" then some (.int b t) else m y) ∧ Fr g L h' m' ∧ News g L h' led
theorem big_cut {M : Model} {A : Around} {E : Value → Shared → Prop} {x : Sem Flow} {Q : Flow → Shared → Prop} {g h hh : Heap} {L : Addr} {m : Loc} {led : Led} {s1 : Shared} (s : Shared) (_F : Fr g L h m) (_N : News g L hh led)
    (h1 : wpAny M A x (fun f s' => f = .next ∧ BigMid g L m led s s') E s1) (h2 : ∀ h' tk' (b : Int) (t : Tok), Fr g L h' (fun y => if y = Str.ofString "big" then some (.int b t) else m y) → News g L h' led → Q .next { s with heap := h', toks := tk' }) : wpAny M A x Q E s1 :=
  wpAny_mono h1 (fun f s' p => by obtain ⟨rfl, h', tk', b, t, _, rfl, rfl, F, N⟩ := p; exact h2 h' tk' b t F N) fun _ _ e => e
set_option maxRecDepth 100000 in
set_option maxHeartbeats 8000000 in
theorem pool_ok (w : World) (ls : Nat) (vs : List Value) (ns : List Int) (hI : IntsAre vs ns) (hlen : ns.length ≤ 63) (p : Program) (loose : List Str) (mean : ExcName → Option Value) (mg mb : Str → Option Value) (dp un : Nat) (gd : Option (List Code)) (cn : Str) (cs : Scope) (a : Addr) (ccd : Value) (cl : List (Str × Addr)) (outer : List Env) (A₀ : Around) (base h₀ : Heap) (L : Addr) (m : Str → Option Value) (s : Shared) (led : Led)
    (Q E : Value → Shared → Prop) (B : Below A₀ base outer h₀) (F : Fr h₀ L s.heap m) (X : (K39 w.params).In h₀) (N : News h₀ L s.heap led) (T : Top p loose mean mg mb h₀) (hk : cs.kind = .function) (hdp : dp + 3 < 900) (hun : un + 8 * 3 < 9000) (hL : h₀.IsList ls vs.toArray)
    (hret : ∀ r led' h' tk', Fr h₀ L h' m → News h₀ L h' led' → (∃ (src n : Nat) (x y : Int) (t1 t2 : Tok), r = .ref src ∧ led' = (src, listOf #[.int x t1, .int y t2] n) :: led ∧ 0 ≤ y ∧ y < 2^40 ∧ AllLt src led) → Q r { s with heap := h', toks := tk' }) :
    wpAny (model PySem.Challenge.rw_og0006_01.row.prog w) (ktrTop dp un gd cn cs L a ccd cl outer) (call (.ref 391) [.ref ls]) Q E s := by
  revert X; k_fill; intro X
  refine wpAny_call ?_
  k_dflt ktr_enter
  refine letA ?_
  intro Ak
  rename Fr h₀ L _ m => FG
  have hLg := (show Heap.IsList _ ls vs.toArray from (let ⟨lo, lo1, lo2, lo3⟩ := hL; ⟨lo, FG.keep _ _ lo1, lo2, lo3⟩))
  have ms : MarkStop := trivial
  k_steps
  unfold Stop
  rename Fr _ _ _ _ => F0
  rename News _ _ _ _ => N0
  refine big_cut s F0 N0 ?_ ?_
  · k_steps
    all_goals first | exact trivial | exact ⟨_, _, _, _, _, rfl, rfl, (by assumption), (by assumption)⟩
  intro h1 tk1 b1 t1 F1 N1
  clear N0
  have ms : MarkStop := trivial
  k_steps
  unfold Stop
  refine big_cut s F0 N1 ?_ ?_
  · clear F0
    k_steps
    all_goals first | exact trivial | exact ⟨_, _, _, _, _, rfl, loc_twice, (by assumption), (by assumption)⟩ | exact ⟨_, _, _, _, _, rfl, rfl, (by assumption), (by assumption)⟩
  clear F0 F1 N1
  intro h2 tk2 b2 t2 F2 N2
  k_steps
  unfold Stop
  rename Fr _ _ _ _ => F1
  with_unfolding_all refine' For_invVF F1 ?hx ?hp ?_; (case hx => rfl); (case hp => rfl)
  k_steps
  unfold Stop
  rename IsRange _ _ _ _ _ _ _ _ => hR7
  rename News _ _ _ _ => N7
  rename Fr _ _ _ _ => F7
  obtain ⟨hrs, hsm, hb20, hbn⟩ := pool_range hlen (rfl : (if (20 : Int) < (ns.length : Int) then 20 else (ns.length : Int)) = _)
  refine iter_range (fun m₀ => PoolJ led m₀) (by rfl) hR7 hsm hrs F7 N7 ⟨_, _, _, locP_init (if_pos rfl), mod_bound.1, mod_bound.2, rfl⟩ ?_ ?_
  · intro I i t m₁ news₁ h tk oI hi hJ
    apply PoolJ.use hJ
    intro M tM u hM0 hM1 hnI F2 N2
    have hi1 : i < ns.length := Nat.lt_of_lt_of_le hi hbn
    have hi2 : i < 20 := Nat.lt_of_lt_of_le hi hb20
    clear F1 F7 N7 hR7 hi hbn hb20 hrs hsm
    (try k_fold)
    k_steps
    exact ⟨_, _, _, _, rfl, (by assumption), (by assumption), hnI, _, _, _, locP, mod_bound2.1, mod_bound2.2, rfl⟩
  · intro m₁ news₁ h tk hJ
    apply PoolJ.use hJ
    intro M tM u hM0 hM1 F2 N2
    clear F1 F7 N7 hR7
    k_steps
    all_goals exact hret _ _ _ _ (by assumption) (by assumption) ⟨_, _, _, _, _, _, rfl, rfl, hM0, hM1, allLt_of (by assumption)⟩
section
variable {prog : Program} {w : World} {A : Around} {E : Value → Shared → Prop} {s : Shared} {env : Env} {h₀ : Heap} {L : Addr} {x : Str} {Q : Value → Shared → Prop}
theorem comp_evalF {elt iter : Expr} {px : Pos} {ifs : List Expr} {scope : Scope} {cl : List (Str × Addr)} {pos : Pos}
    {m0 : Loc} {h9 : Heap} (_F9 : Fr h₀ L h9 m0)
    (hclos : closureFor scope env = pure cl) (hcell : ∀ y ∈ scope.names, y.2 ≠ .cell) (hkind : scope.kind = .function) (hnames : ∀ y ∈ scope.names, y.2 = .local → scope.names.lookup y.1 = some .local) (hx : scope.names.lookup x = some .local) (hh : A.handled = none)
    (h : wpAny (model prog w) A (eval iter env) (fun xv s₁ => ∃ (l : Nat) (vs : Array Value) (n : Nat) (m : Loc) (news : Led) (J : Nat → Array Value → Led → Prop), xv = .ref l ∧ Fr h₀ L s₁.heap m ∧ News h₀ L s₁.heap news ∧ (l, listOf vs n) ∈ news ∧ J 0 #[] news ∧ (∀ i ys nw, J i ys nw → (l, listOf vs n) ∈ nw) ∧ (∀ i ys nw, J i ys nw → ys.size ≤ sizeLine) ∧
      CompTurns prog w A env scope cl elt ifs h₀ L x vs m J s₁ ∧
      (∀ (D : Nat) ys k nw h tk, J vs.size ys nw → Fr h₀ L h m → News h₀ L h ((D, listOf ys k) :: nw) → (∀ p ∈ nw, p.1 ≠ D) → (∀ p ∈ news, @LT.lt Nat _ p.1 D) → Q (.ref D) { s₁ with heap := h, toks := tk })) E s)
    (hs : ∀ x, foldedSetIterable iter env x = pure x := by intro _; rfl) :
    wpAny (model prog w) A (eval (.ListComp elt [⟨.Name x px, iter, ifs, 0⟩] scope pos) env) Q E s := comp_eval hclos hcell hkind hnames hx hh h hs
end
noncomputable def rowRef : Pt → Nat
  | .var => 304
  | .lit _ => 331
  | .con _ _ _ => 358
noncomputable def Pt.depth : Pt → Nat
  | .con _ l r => max l.depth r.depth + 1
  | _ => 1
theorem dp1 {o : Op} {l r : Pt} : (Pt.con o l r).depth = max l.depth r.depth + 1 := rfl
theorem dp2 {k : Int} : (Pt.lit k).depth = 1 := rfl
theorem dp3 : Pt.var.depth = 1 := rfl
noncomputable def RowMPost (R Rt : Led) (q : Pt) (r : Value) (led' : Led) : Prop := ∃ New, led' = New ++ Rt ∧ Above New Rt ∧ PtIn (New ++ R) r q
theorem RowMPost.use {R Rt : Led} {q : Pt} {r : Value} {led' : Led} {C : Led → Prop} (h : RowMPost R Rt q r led') (k : ∀ New, Above New Rt → PtIn (New ++ R) r q → C (New ++ Rt)) : C led' := by
  obtain ⟨New, rfl, a, b⟩ := h
  exact k New a b
noncomputable def RowMIH (w : World) (q : Pt) : Prop := ∀ (R Rt : Led) (v : Value), (∀ p ∈ R, p ∈ Rt) → NodeIn w R v q → Calls w (rowRef q) [v] (6 * q.depth) Rt (RowMPost R Rt q)
noncomputable def RwJ (R Rt : Led) (l r : Pt) (i : Nat) (ys : Array Value) (nw : Led) : Prop := ∃ New, nw = New ++ Rt ∧ Above New Rt ∧ All2 (PtIn (New ++ R)) ys.toList ([l, r].take i)
theorem rw_push {g h' : Heap} {L : Addr} {m : Loc} {C D I i k tk' : Nat} {oC oI : Obj} {ys : Array Value} {R Rt New New2 : Led} {l r q : Pt} {v : Value} {s : Shared} (F : Fr g L h' m) (N : News g L h' (New2 ++ ((C, oC) :: (D, listOf ys k) :: (I, oI) :: (New ++ Rt)))) (hne : ∀ p ∈ New ++ Rt, p.1 ≠ C ∧ p.1 ≠ D ∧ p.1 ≠ I) (hA : Above New Rt) (hA2 : Above New2 ((C, oC) :: (D, listOf ys k) :: (I, oI) :: (New ++ Rt))) (hall : All2 (PtIn (New ++ R)) ys.toList ([l, r].take i)) (hq : [l, r][i]? = some q) (hP : PtIn (New2 ++ R) v q) :
    CompEnd g L m I C D oI oC ys k (RwJ R Rt l r (i + 1)) s v { s with heap := h', toks := tk' } := by
  refine ⟨h', tk', New2 ++ (New ++ Rt), rfl, F, News.sub N (by grind), ?_, New2 ++ New, by rw [List.append_assoc], ?_, ?_⟩
  · intro p hp
    rcases List.mem_append.mp hp with hp | hp
    · exact ⟨Nat.ne_of_gt (hA2 p hp _ (.head _)), Nat.ne_of_gt (hA2 p hp _ (.tail _ (.head _))), Nat.ne_of_gt (hA2 p hp _ (.tail _ (.tail _ (.head _))))⟩
    · exact hne p hp
  · intro p hp z hz
    rcases List.mem_append.mp hp with hp | hp
    · exact hA2 p hp z (.tail _ (.tail _ (.tail _ (List.mem_append.mpr (.inr hz)))))
    · exact hA p hp z hz
  · rw [Array.toList_push, List.take_add_one, hq]
    exact All2.append (hall.mono fun _ _ x => x.mono (by grind)) (.cons (hP.mono (by grind)) .nil)
theorem row_con {R Rt New : Led} {o : Op} {l r : Pt} {x y D k : Nat} {t1 t3 : Tok} {w1 w2 : Value} (hA : Above New Rt) (hw1 : PtIn (New ++ R) w1 l) (hw2 : PtIn (New ++ R) w2 r) (l1 : @LT.lt Nat _ D y ∧ AllLt y (New ++ Rt)) (l2 : @LT.lt Nat _ y x ∧ @LT.lt Nat _ D x ∧ AllLt x (New ++ Rt)) (hD : ∀ p ∈ Rt, @LT.lt Nat _ p.1 D) :
    RowMPost R Rt (.con o l r) (.ref x) ((x, { cls := .type "tuple", data := .seq #[.str (Str.ofString "pcon") t1, .str o.str t3, .ref y] }) :: (y, { cls := .type "tuple", data := .seq #[w1, w2] }) :: (D, listOf #[w1, w2] k) :: (New ++ Rt)) := by
  refine ⟨(x, { cls := .type "tuple", data := .seq #[.str (Str.ofString "pcon") t1, .str o.str t3, .ref y] }) :: (y, { cls := .type "tuple", data := .seq #[w1, w2] }) :: (D, listOf #[w1, w2] k) :: New, rfl, ?_, .con (.head _) (.tail _ (.head _)) (hw1.mono ?_) (hw2.mono ?_)⟩
  · intro p hp z hz
    rcases List.mem_cons.mp hp with rfl | hp
    · exact allLt_mem l2.2.2 z (List.mem_append.mpr (.inr hz))
    rcases List.mem_cons.mp hp with rfl | hp
    · exact allLt_mem l1.2 z (List.mem_append.mpr (.inr hz))
    rcases List.mem_cons.mp hp with rfl | hp
    · exact hD z hz
    · exact hA p hp z hz
  · intro p hp; exact .tail _ (.tail _ (.tail _ hp))
  · intro p hp; exact .tail _ (.tail _ (.tail _ hp))
theorem row_one {R Rt : Led} {q : Pt} {x : Nat} {o : Obj} (h1 : ∀ p ∈ Rt, @LT.lt Nat _ p.1 x) (h : PtIn ((x, o) :: R) (.ref x) q) : RowMPost R Rt q (.ref x) ((x, o) :: Rt) :=
  ⟨[(x, o)], rfl, fun p hp z hz => by rw [List.mem_singleton.mp hp]; exact h1 z hz, h⟩
theorem RwJ.use {R Rt : Led} {l r : Pt} {i : Nat} {ys : Array Value} {nw : Led} {C : Led → Prop} (h : RwJ R Rt l r i ys nw) (k : ∀ New, Above New Rt → All2 (PtIn (New ++ R)) ys.toList ([l, r].take i) → C (New ++ Rt)) : C nw := by
  obtain ⟨New, rfl, a, b⟩ := h
  exact k New a b
theorem two_arr {R : Led} {l r : Pt} {ys : Array Value} {C : Array Value → Prop} (h : All2 (PtIn R) ys.toList [l, r]) (k : ∀ w1 w2, PtIn R w1 l → PtIn R w2 r → C #[w1, w2]) : C ys := by
  obtain ⟨yl⟩ := ys
  cases h with
  | cons a1 a2 => cases a2 with
    | cons b1 b2 => cases b2; exact k _ _ a1 b1
theorem rd9 {a d m : Nat} (h : a + 6 * (m + 1) < 900) (h2 : d ≤ m) : a + 1 + 1 + 6 * d < 900 := by omega
theorem ru9 {a d m : Nat} (h : a + 8 * (6 * (m + 1)) < 9000) (h2 : d ≤ m) : a + 3 + 3 + 8 * (6 * d) < 9000 := by omega
set_option maxRecDepth 100000 in
set_option maxHeartbeats 8000000 in
theorem rowm_con (w : World) (o : Op) (l r : Pt) (IHl : RowMIH w l) (IHr : RowMIH w r) : RowMIH w (.con o l r) := by
  intro R Rt v hs hN
  unfold Calls
  intro p loose mean mg mb dp un gd cn cs a ccd cl outer A₀ base h₀ L m s Q E B F X N T hk hdp hun hret
  revert X; k_fill; intro X
  simp only [rowRef, dp1, dp2, dp3] at hdp hun ⊢
  cases hN with
  | @con a1 d1 n1 al n2 t1 t2 t3 t4 _ v1 v2 _ _ h1 h2 h3 h4 h5 =>
  refine wpAny_call ?_
  k_dflt ktr_enter
  k_steps
  unfold Stop
  rename News _ _ _ _ => N9
  rename Fr _ _ _ _ => F9
  refine comp_evalF F9 (by rfl) (by decide) (by rfl) (by decide) (by rfl) (by rfl) ?_
  walk1
  refine ⟨al, #[v1, v2], n2, _, _, RwJ R Rt l r, rfl, F9, N9, hs _ h3, ⟨[], rfl, fun p hp => (nomatch hp), .nil⟩, ?_, ?_, ?_, ?_⟩
  · intro i ys nw h9
    apply RwJ.use h9
    intro New _ _
    exact List.mem_append.mpr (.inr (hs _ h3))
  · intro i ys nw h9
    apply RwJ.use h9
    intro New hA hall
    have := hall.length
    rw [sizeLine_eq]
    simp only [Array.length_toList, List.length_take, List.length_cons, List.length_nil] at this
    omega
  · intro C D I oC oI k i v ys nw h tk mC E' hv hJ hneC hCD hCI hDI F2 N2 hNs hmx
    clear F9 N9
    refine wpAny_tests_nil ?_
    rw [if_pos rfl]
    revert hneC F2 N2
    apply RwJ.use hJ
    clear hJ
    intro New hA hall hneC F2 N2
    have hall2 : All2 (NodeIn w R) [v1, v2] [l, r] := .cons h4 (.cons h5 .nil)
    refine ex1_2 (All2.get hall2 (by simpa using hv)) fun q hq hvq => ?_
    have hIH9 : RowMIH w q ∧ q.depth ≤ max l.depth r.depth := by
      rcases i with _ | _ | i
      · cases hq; exact ⟨IHl, Nat.le_max_left _ _⟩
      · cases hq; exact ⟨IHr, Nat.le_max_right _ _⟩
      · simp at hq
    have hIH := hIH9.1
    have hdq := hIH9.2
    have hd9 := rd9 hdp hdq
    have hu9 := ru9 hun hdq
    clear hIH9
    have hsR : ∀ p ∈ R, p ∈ (C, oC) :: (D, listOf ys k) :: (I, oI) :: (New ++ Rt) := fun p hp => .tail _ (.tail _ (.tail _ (List.mem_append.mpr (.inr (hs p hp)))))
    have C9 := hIH R _ v hsR hvq
    have mc1 : MarkC 304 := trivial
    have mc2 : MarkC 331 := trivial
    have mc3 : MarkC 358 := trivial
    cases hvq
    all_goals simp only [rowRef, dp1, dp2, dp3] at C9 hd9 hu9
    all_goals k_steps
    all_goals unfold Stop
    all_goals dsimp only [List.append_nil, List.cons_append, List.nil_append]
    all_goals rename News _ _ _ _ => N9
    all_goals rename Fr _ _ _ _ => F9
    all_goals
      refine Calls.use C9 (by k_asm) F9 (by k_asm) N9 (by k_asm) ?_ ?_ ?_ ?_
      · exact rfl
      · ktr_room
      · ktr_units
      · intro r9 l9 h' tk' F' N' P9
        revert N'
        apply RowMPost.use P9
        intro New2 hA2 hP2 N'
        exact rw_push F' N' hneC hA hA2 hall hq hP2
  · intro D ys k nw h tk hJ F2 N2 hneD hlt
    clear F9 N9
    revert F2 N2 hneD
    apply RwJ.use hJ
    clear hJ
    intro New hA hall
    apply two_arr hall
    intro w1 w2 hw1 hw2 F2 N2 hneD
    k_steps
    exact hret _ _ _ _ (by assumption) (by assumption) (row_con hA hw1 hw2 (by assumption) (by assumption) hlt)
set_option maxRecDepth 100000 in
set_option maxHeartbeats 8000000 in
theorem rowm_ok (w : World) (q : Pt) : RowMIH w q := by
  induction q with
  | con o l r h1 h2 => exact rowm_con w o l r h1 h2
  | lit k =>
    intro R Rt v hs hN
    unfold Calls
    intro p loose mean mg mb dp un gd cn cs a ccd cl outer A₀ base h₀ L m s Q E B F X N T hk hdp hun hret
    revert X; k_fill; intro X
    simp only [rowRef, dp1, dp2, dp3] at hdp hun ⊢
    cases hN with
    | lit h1 h2 =>
    refine wpAny_call ?_
    k_dflt ktr_enter
    refine letA ?_
    intro Ak
    k_steps
    exact hret _ _ _ _ (by assumption) (by assumption) (row_one (by assumption) (.lit (.head _)))
  | var =>
    intro R Rt v hs hN
    unfold Calls
    intro p loose mean mg mb dp un gd cn cs a ccd cl outer A₀ base h₀ L m s Q E B F X N T hk hdp hun hret
    revert X; k_fill; intro X
    simp only [rowRef, dp1, dp2, dp3] at hdp hun ⊢
    cases hN with
    | var h1 h2 =>
    refine wpAny_call ?_
    k_dflt ktr_enter
    refine letA ?_
    intro Ak
    k_steps
    exact hret _ _ _ _ (by assumption) (by assumption) (row_one (by assumption) (.var (.head _)))
section
variable {prog : Program} {w : World} {A : Around} {E : Value → Shared → Prop} {s : Shared}
theorem list_no_keys : typeLookup (.type "list") "keys" = pure none := by rw [typeLookup_type, builtinLookup_eq_fast]; kernel_rfl
theorem keys_none {a : Addr} {xs : Array Value} {k : Nat} {Q : Option Value → Shared → Prop} (hx : s.heap.get? a = some (listOf xs k)) (hA : A.handled = none)
    (h : ∀ h' tk, (∀ b o, s.heap.get? b = some o → h'.get? b = some o) → Q none { s with heap := h', toks := tk }) :
    wpAny (model prog w) A (getAttr? (.ref a) "keys") Q E s := by
  obtain ⟨hp, g, d, tk, os⟩ := s
  have hT : ∀ tk', (⟨hp, g, d, tk', os⟩ : Shared).TypeIs (.ref a) "list" := fun _ => ⟨_, hx, rfl⟩
  have f1 := sub_AttributeError
  have f3 := F.slot_list_getattribute.lookup
  have f4 := F.slot_list_getattribute.bind (.ref a)
  have f5 := am_list_getattr_none
  unfold getAttr? getAttrBy? getAttrBy
  repeat (any_goals (first | assumption | exact hT _ | ((with_reducible show wpAny _ _ (call (Value.builtin "list.__getattribute__") _ _) _ _ _); refine call_meets F.slot_list_getattribute (hT _) am_entry_list_getattribute (F.args_list_getattribute_2 _ _) (meets_getattribute_miss_list a xs k _ "keys" _ list_no_keys (by decide +kernel) (by decide)) ⟨hx, hA, fun h' tk' e hx' => ?_⟩) | wp_step))
  obtain ⟨t', u', he⟩ := hx'.there
  show wpAny _ _ (getattributeRaised _ _ _ _ _ _ _) _ _ _
  unfold getattributeRaised
  repeat (any_goals (first | assumption | wp_step))
  exact h _ _ hx'.of.keeps
end
theorem plain_upd : plainId "dict.update.loop" = true := by decide +kernel
theorem entry_upd : entryFor table "dict.update.loop" = some Builtin.«dict.update.loop» := entryFor_of_tree (by kernel_rfl)
noncomputable def KeepBut (base : Heap) (I d : Nat) (h : Heap) : Prop := ∀ (b : Nat) o, b ≠ I → b ≠ d → base.get? b = some o → h.get? b = some o
noncomputable def PairAt (base : Heap) (I d : Nat) (v : Value) (p : Str × Value) : Prop := ∃ (a : Nat) (t : Tok), v = .ref a ∧ base.get? a = some (tupOf [.str p.1 t, p.2]) ∧ a ≠ I ∧ a ≠ d
abbrev storedAll (kvs ps : List (Str × Value)) : List (Str × Value) := ps.foldl (fun m p => stored m p.1 p.2) kvs
theorem stored_len {kvs : List (Str × Value)} {k : Str} {v : Value} : (stored kvs k v).length ≤ kvs.length + 1 := by
  unfold stored
  split
  · rw [List.length_map]; omega
  · rw [List.length_append]; simp
theorem upd_loop {prog : Program} {w : World} {l I d : Nat} {vs : Array Value} {base : Heap} {ps : List (Str × Value)} (hId : I ≠ d) (hl : base.IsList l vs) (hlI : l ≠ I) (hld : l ≠ d) (hp : All2 (PairAt base I d) vs.toList ps) (hsz : vs.size ≤ 100) (k : Nat) :
    ∀ (i : Nat) (kvs : List (Str × Value)) (A : Around) (R : Result → Shared → Prop) (s : Shared), vs.size - i = k → KeepBut base I d s.heap → s.heap.IsListIter I l i → s.heap.DictOf (PySem.strKind prog w) d kvs → kvs.length ≤ i → A.handled = none →
      (∀ h' tk, KeepBut base I d h' → h'.DictOf (PySem.strKind prog w) d (storedAll kvs (ps.drop i)) → R (.ok (.ret .none)) { s with heap := h', toks := tk }) →
      wpAny (model prog w) A.in1 (Builtin.«dict.update.loop» ⟨[.ref d, .ref I, rawInt i, .none], []⟩) (fun fin s' => match fin with | .done f => R (.ok f) s' | .again c' => c'.quiet = true ∧ codeAny (model prog w) A c' R s') (fun e s' => R (.error e) s') s := by
  have hlen : vs.size = ps.length := by rw [← hp.length]; simp
  have hl' : ∀ h : Heap, KeepBut base I d h → h.IsList l vs := fun h hk => by
    obtain ⟨o, o1, o2, o3⟩ := hl
    exact ⟨o, hk _ _ hlI hld o1, o2, o3⟩
  induction k with
  | zero =>
    intro i kvs A R s hk hkeep hit hd hkl hA hR
    unfold Builtin.«dict.update.loop»
    refine wpAny_bind ?_
    refine wpAny_pyNext_list_end hA hit (hl' _ hkeep) (Array.getElem?_eq_none_iff.mpr (Nat.le_of_sub_eq_zero hk)) fun h₂ he₂ => ?_
    show wpAny _ _ (Builtin.Dict.addKeywords d [] >>= _) _ _ _
    refine wpAny_bind (wpAny_pure (wpAny_pure ?_))
    have e : ps.drop i = [] := List.drop_eq_nil_of_le (hlen ▸ Nat.le_of_sub_eq_zero hk)
    rw [e] at hR
    exact hR h₂ s.toks (fun b o h1 h2 h3 => he₂ b o h1 (hkeep b o h1 h2 h3)) (hd.extBut he₂ (Ne.symm hId))
  | succ k ih =>
    intro i kvs A R s hk hkeep hit hd hkl hA hR
    have hi : i < vs.size := Nat.lt_of_sub_eq_succ hk
    have hv : vs[i]? = some vs[i] := by simp [hi]
    obtain ⟨p, hp1, a, t, hva, ha, haI, had⟩ := All2.get hp (show vs.toList[i]? = some vs[i] by simpa using hv)
    unfold Builtin.«dict.update.loop»
    refine wpAny_bind ?_
    refine wpAny_pyNext_list_item hit (hl' _ hkeep) hv fun h₂ hit₂ hs₂ => ?_
    have hkeep₂ : KeepBut base I d h₂ := fun b o h1 h2 h3 => hs₂.extBut b o h1 (hkeep b o h1 h2 h3)
    have hd₂ := hd.sameBut hs₂ (Ne.symm hId)
    have ha₂ := hkeep₂ a _ haI had ha
    rw [hva]
    refine wpAny_bind (wpAny_holding (wpAny_bind (wpAny_tryCatch ?_)))
    unfold Builtin.Dict.pairItems
    refine wpAny_bind (wpAny_typeOf (T := "tuple") ⟨_, ha₂, rfl⟩ ?_)
    rw [if_pos (by decide)]
    refine wpAny_bind (wpAny_seqItems (s := { s with heap := h₂ }) ha₂ rfl (wpAny_pure ?_))
    refine wpAny_holding ?_
    refine wpAny_dictSet_pairs (knd := PySem.strKind prog w) (strKind_is _ _ _ _) hd₂ (fun h₃ hd₃ hs₃ => ?_) (szK (Nat.le_trans hkl (Nat.le_trans (Nat.le_of_lt hi) (Nat.le_trans hsz (by decide)))))
    refine wpAny_pure ⟨plainId_quiet plain_upd _, codeAny_builtin entry_upd ?_⟩
    rw [Around.under_plainId plain_upd _]
    have hc : ((i : Int) + 1) = ((i + 1 : Nat) : Int) := by push_cast; rfl
    rw [hc]
    have hkl3 : (stored kvs p.1 p.2).length ≤ i + 1 := Nat.le_trans stored_len (Nat.succ_le_succ hkl)
    refine ih (i + 1) _ A R { s with heap := h₃, toks := _ } (by rw [Nat.sub_succ, hk]; rfl) (fun b o h1 h2 h3 => hs₃.extBut b o h2 (hkeep₂ b o h1 h2 h3)) ?_ hd₃ hkl3 hA fun h' tk hk' hd' => ?_
    · obtain ⟨o, o1, o2, o3⟩ := hit₂
      exact ⟨o, hs₃.extBut _ _ hId o1, o2, o3⟩
    · refine hR h' tk hk' ?_
      have e : ps.drop i = p :: ps.drop (i + 1) := by
        have h9 : i < ps.length := hlen ▸ hi
        rw [List.drop_eq_getElem_cons h9]
        rw [List.getElem?_eq_getElem h9] at hp1
        rw [Option.some.inj hp1]
      rw [e]
      exact hd'
theorem dict_pairs {prog : Program} {w : World} {A : Around} {E : Value → Shared → Prop} {s : Shared} {h₀ : Heap} {L : Addr} {m : Loc} {news : Led} {l n : Nat} {vs : Array Value} {ps : List (Str × Value)} {Q : Value → Shared → Prop} (F : Fr h₀ L s.heap m) (N : News h₀ L s.heap news) (hbig : sysModules < h₀.objs.size) (hA : A.handled = none)
    (hl : (l, listOf vs n) ∈ news) (hp : All2 (fun v (p : Str × Value) => ∃ (a : Nat) (t : Tok), v = .ref a ∧ (a, tupOf [.str p.1 t, p.2]) ∈ news) vs.toList ps) (hsz : vs.size ≤ 100)
    (h : ∀ (d : Nat) od h' tk, Fr h₀ L h' m → News h₀ L h' ((d, od) :: news) → (∀ p ∈ news, @LT.lt Nat _ p.1 d) → (d == sysModules) = false → od.IsDictOf (PySem.strKind prog w) (storedAll [] ps) → Q (.ref d) { s with heap := h', toks := tk }) :
    wpAny (model prog w) A (call (.type "dict") [.ref l]) Q E s := by
  have hbelow : ∀ (b : Nat) o, s.heap.get? b = some o → @LT.lt Nat _ b s.heap.objs.size := fun b o e => Heap.lt_size e
  refine callType_codes (Q₁ := fun obj s₁ => obj = .ref s.heap.objs.size ∧ s₁ = { s with heap := s.heap.push { cls := .type "dict", data := .dict #[] } }) PySem.F.kt_called_dict (PySem.F.kt_typeCall_dict_1 _) PySem.F.entry_dict_init (kt_code_dict_new _ ⟨rfl, rfl⟩) ?_
  rintro obj s₁ ⟨rfl, rfl⟩
  have hnew : (s.heap.push { cls := .type "dict", data := .dict #[] }).DictOf (PySem.strKind prog w) s.heap.objs.size [] := Heap.DictOf.new s.heap
  have hl1 := Heap.get?_push_of_some { cls := .type "dict", data := .dict #[] } (N _ hl).1
  refine ⟨hnew.typeIs, PySem.F.args_dict_init_2 _ _, ?_⟩
  unfold Builtin.«dict.__init__»
  refine wpAny_bind ?_
  unfold Builtin.Dict.selfAndRest
  refine wpAny_bind (wpAny_notOrdered_dict hnew.typeIs ?_)
  show wpAny _ _ (pure (s.heap.objs.size, [Value.ref l])) _ _ _
  refine wpAny_pure ?_
  show wpAny _ _ (Builtin.Dict.updateFrom "dict.__init__" s.heap.objs.size (.ref l) [] .none) _ _ _
  unfold Builtin.Dict.updateFrom
  refine wpAny_bind (wpAny_typeOf (T := "list") ⟨_, hl1, rfl⟩ ?_)
  rw [if_pos (by decide)]
  refine wpAny_bind (keys_none (s := { s with heap := _ }) hl1 hA fun h1 tk1 hk1 => ?_)
  rw [if_pos (by rfl)]
  refine wpAny_bind (wpAny_rule (wpAny_bind ?_))
  have hl2 : h1.IsList l vs := listOf_isList (hk1 _ _ hl1)
  refine wpAny_pyIter_list hl2 ?_
  have hkk : ∀ (b : Nat) o, s.heap.get? b = some o → h1.get? b = some o := fun b o e => hk1 b o (Heap.get?_push_of_some _ e)
  have hd1 : h1.DictOf (PySem.strKind prog w) s.heap.objs.size [] := by
    obtain ⟨o, es, ep, ho, r⟩ := hnew
    exact ⟨o, es, ep, hk1 _ _ ho, r⟩
  have hdI : @LT.lt Nat _ s.heap.objs.size h1.objs.size := by
    obtain ⟨o, es, ep, ho, r⟩ := hd1
    exact Heap.lt_size ho
  have hlt : @LT.lt Nat _ l s.heap.objs.size := hbelow _ _ (N _ hl).1
  refine wpAny_pure ⟨plainId_quiet plain_upd _, codeAny_builtin entry_upd ?_⟩
  rw [Around.under_plainId plain_upd _]
  refine upd_loop (base := h1) (ps := ps) (Nat.ne_of_gt hdI) hl2 (Nat.ne_of_lt (Nat.lt_trans hlt hdI)) (Nat.ne_of_lt hlt) (hp.mono fun v p x => ?_) hsz _ 0 [] _ _ _ rfl (fun b o _ _ e => Heap.get?_push_of_some _ e) ⟨_, Heap.get?_push_size _ rfl, rfl, rfl⟩ (hd1.push _) (Nat.zero_le _) hA fun h' tk hk' hd' => ⟨rfl, ?_⟩
  · obtain ⟨a, t, e1, e2⟩ := x
    have := hbelow _ _ (N _ e2).1
    exact ⟨a, t, e1, hkk _ _ (N _ e2).1, Nat.ne_of_lt (Nat.lt_trans this hdI), Nat.ne_of_lt this⟩
  · obtain ⟨od, ho', hdd⟩ := Heap.dictOf_iff.mp hd'
    have kk : ∀ (b : Nat) o, s.heap.get? b = some o → h'.get? b = some o := fun b o e => hk' b o (Nat.ne_of_lt (Nat.lt_trans (hbelow _ _ e) hdI)) (Nat.ne_of_lt (hbelow _ _ e)) (hkk b o e)
    refine h _ od h' tk (F.keeps kk) ?_ (fun p hp => hbelow _ _ (N p hp).1) (F.notModules hbig) hdd
    intro p hp
    rcases List.mem_cons.mp hp with rfl | hp
    · exact ⟨ho', Nat.ne_of_gt F.ns.lt, next_is_new F⟩
    · exact ⟨kk _ _ (N p hp).1, (N p hp).2⟩
section
open PySem.SeqAt
theorem tup_at {h₀ h : Heap} {L : Addr} {news : Led} {a : Nat} {vs : List Value} (N : News h₀ L h news) (hm : (a, tupOf vs) ∈ news) : h.IsTuple a vs.toArray := ⟨_, (N _ hm).1, rfl, 0, rfl⟩
theorem tup_eq {A : Around} {s : Shared} {l b : Nat} {xs ys : List Value} (hl : s.heap.IsTuple l xs.toArray) (hb : s.heap.IsTuple b ys.toArray) (hu : A.units < cLine) (hz : xs.length = ys.length)
    (he : ∀ (j : Nat) (v v' : Value), xs[j]? = some v → ys[j]? = some v' → EqAt A.in1 s v v' true) : RcAt A s (.ref l) (.ref b) true := by
  have h := RcAt.tuples (e := fun _ => true) hl hb hu fun j h1 h2 => he j _ _ (by simp only [List.size_toArray] at h1; simp [h1]) (by simp only [List.size_toArray] at h2; simp [h2])
  have e : ((List.range (min xs.toArray.size ys.toArray.size)).all (fun _ => true) && xs.toArray.size == ys.toArray.size) = true := by
    rw [List.all_eq_true.mpr (fun _ _ => rfl)]; simp [hz]
  rw [e] at h; exact h
theorem eq_refs {A : Around} {s : Shared} {l b : Nat} (h : RcAt A s (.ref l) (.ref b) true) : EqAt A s (.ref l) (.ref b) true := by
  by_cases e : l = b
  · rw [e]; exact EqAt.same _
  · exact EqAt.of_refs e h
theorem eq_str {A : Around} {s : Shared} {x : Str} {t u : Tok} : EqAt A s (.str x t) (.str x u) true := by
  have := EqAt.str_str (A := A) (s := s) x t x u
  simpa using this
theorem eq_int {A : Around} {s : Shared} {x : Int} {t u : Tok} : EqAt A s (.int x t) (.int x u) true := by
  have := EqAt.int_int (A := A) (s := s) x t x u
  simpa using this
theorem pu0 {a k n : Nat} (h : a + k < n) : a < n := Nat.lt_of_le_of_lt (Nat.le_add_right _ _) h
theorem pt_rc {s : Shared} {h₀ : Heap} {L : Addr} {news : Led} (N : News h₀ L s.heap news) : ∀ (q : Pt) (A : Around) (a b : Nat), A.units + 3 * q.depth < cLine → PtIn news (.ref a) q → PtIn news (.ref b) q → RcAt A s (.ref a) (.ref b) true := by
  intro q
  induction q with
  | lit k =>
    intro A a b hu h1 h2
    cases h1 with
    | lit m1 =>
    cases h2 with
    | lit m2 =>
    refine tup_eq (tup_at N m1) (tup_at N m2) (pu0 hu) rfl fun j v v' e1 e2 => ?_
    rcases j with _ | _ | _ | j
    · cases e1; cases e2; exact eq_str
    · cases e1; cases e2; exact eq_str
    · cases e1; cases e2; exact eq_int
    · simp at e1
  | var =>
    intro A a b hu h1 h2
    cases h1 with
    | var m1 =>
    cases h2 with
    | var m2 =>
    refine tup_eq (tup_at N m1) (tup_at N m2) (pu0 hu) rfl fun j v v' e1 e2 => ?_
    rcases j with _ | _ | j
    · cases e1; cases e2; exact eq_str
    · cases e1; cases e2; exact eq_str
    · simp at e1
  | con o l r ihl ihr =>
    intro A a b hu h1 h2
    simp only [dp1, dp2, dp3] at hu
    cases h1 with
    | con m1 m1' l1 r1 =>
    cases h2 with
    | con m2 m2' l2 r2 =>
    refine tup_eq (tup_at N m1) (tup_at N m2) (pu0 hu) rfl fun j v v' e1 e2 => ?_
    rcases j with _ | _ | _ | j
    · cases e1; cases e2; exact eq_str
    · cases e1; cases e2; exact eq_str
    · cases e1; cases e2
      refine eq_refs (tup_eq (tup_at N m1') (tup_at N m2') (by dsimp only; omega) rfl fun j v v' e1 e2 => ?_)
      rcases j with _ | _ | j
      · cases e1; cases e2
        obtain ⟨x1, rfl⟩ := l1.isRef
        obtain ⟨x2, rfl⟩ := l2.isRef
        exact eq_refs (ihl _ _ _ (by dsimp only; omega) l1 l2)
      · cases e1; cases e2
        obtain ⟨x1, rfl⟩ := r1.isRef
        obtain ⟨x2, rfl⟩ := r2.isRef
        exact eq_refs (ihr _ _ _ (by dsimp only; omega) r1 r2)
      · simp at e1
    · simp at e1
theorem pt_eq {s : Shared} {h₀ : Heap} {L : Addr} {news : Led} {q : Pt} {A : Around} {v v' : Value} {E Q : Value → Shared → Prop} {prog : Program} {w : World} (N : News h₀ L s.heap news) (hu : A.units + 3 * q.depth < cLine) (h1 : PtIn news v q) (h2 : PtIn news v' q) (h : Q (.bool true) s) :
    wpAny (model prog w) A (compareOp .Eq v v') Q E s := by
  obtain ⟨a, rfl⟩ := h1.isRef
  obtain ⟨b, rfl⟩ := h2.isRef
  exact pt_rc N q A a b hu h1 h2 prog w E Q h
theorem depth_size : ∀ {t : Tr} {q : Pt}, nodeOf t = some q → q.depth ≤ t.size + 1
  | .num _, _, h => by cases h; simp [dp1, dp2, dp3, sz1, sz2, sz3, sz4]
  | .var, _, h => by cases h; simp [dp1, dp2, dp3, sz1, sz2, sz3, sz4]
  | .neg (.num _), _, h => by cases h; simp [dp1, dp2, dp3, sz1, sz2, sz3, sz4]
  | .bin o l r, q, h => by
    simp only [nof1, nof2, nof3, nof4, nof5, nof6, nof7] at h
    cases hl : nodeOf l with
    | none => rw [hl] at h; cases h
    | some a =>
      cases hr : nodeOf r with
      | none => rw [hl, hr] at h; cases h
      | some b =>
        rw [hl, hr] at h
        have d1 := depth_size hl
        have d2 := depth_size hr
        dsimp only at h
        split at h
        · cases h
        · cases h; simp only [dp1, dp2, dp3, sz1, sz2, sz3, sz4]; omega
end
section
variable {prog : Program} {w : World} {A₀ : Around} {E : Value → Shared → Prop} {s' : Shared} {h₀ h : Heap} {outer : List Env} {L a e : Addr} {m : Str → Option Value} {name : Str} {scope : Scope} {cd : Value} {cl : List (Str × Addr)}
  {b₀ : Stmt} {suite : List Stmt} {pos np : Pos} {rest : List ExceptHandler} {Q : Flow → Shared → Prop} {news : Led} {p : Program} {loose : List Str} {mg mb : Str → Option Value}
theorem caught_own (K : Below A₀ h₀ outer h₀) (F : Fr h₀ L h m) (hsm : h.UpToSlots s'.heap) (R : RaisedN h₀ (envX name scope L a cd cl :: outer) e (.ref 52) news s'.heap)
    (X : (K39 w.params).In h₀) (T : TopRead p loose mg mb h₀)
    (k : ∀ h', Fr h₀ L h' m → News h₀ L h' news → wpAny (model prog w) ((A₀.deeper (envX name scope L a cd cl)).mark (some (.ref e))) (execs (b₀ :: suite) (envX name scope L a cd cl)) Q E { s' with heap := h' })
    (hk : scope.kind = .function := by rfl) (hx : (envX name scope L a cd cl).kindOf (Str.ofString "FixityError") = some .globalImplicit := by rfl)
    (hE : PassesOwnAt (model prog w) ((A₀.deeper (envX name scope L a cd cl)).mark (some (.ref e))) (A₀.deeper (envX name scope L a cd cl)) (envX name scope L a cd cl) E := by passes_own) :
    wpAny (model prog w) (A₀.deeper (envX name scope L a cd cl)) (noteFrame (.ref e) (envX name scope L a cd cl))
      (fun _ s₂ => wpAny (model prog w) (A₀.deeper (envX name scope L a cd cl)) (setFlight (.ref e) none) (fun _ s₃ =>
        wpAny (model prog w) (A₀.deeper (envX name scope L a cd cl)) (handleBy (.ref e) (envX name scope L a cd cl) (.ExceptHandler (some (.Name (Str.ofString "FixityError") np)) none (b₀ :: suite) pos :: rest)) Q E s₃) E s₂) E s' := by
  obtain ⟨B, a0, hB, hl, hfl⟩ := R
  have hL : B.get? L = none := by
    obtain ⟨_, ⟨L', _, hf, hn', _⟩, _⟩ := hfl.2.2.1
    obtain rfl : L = L' := Option.some.inj hf
    exact hn'
  refine wpAny_looks_onW (Around.frames_deeper K.stack) rfl hfl fun h₄ hheld₄ hsm₄ => ?_
  refine wpAny_landsW hheld₄ fun h₅ hheld hsm₅' => ?_
  have hsm₅ := hsm₄.trans hsm₅'
  have hheld' := flyingW_base hB hheld
  have F₅ := F.of_stays hheld'.1 (hsm.trans hsm₅)
  obtain ⟨ob, hob, hobc⟩ := hheld'.there
  refine wpAny_handleBy_cons (codeAny_handlers_test (nameX_K F₅ X T (v := .ref 52) (by rfl) ?_ hk hx (by decide))) (by intro q; cases q)
  obtain ⟨nm, q, Nn, bs, hdct, sn, sub, ab, col, dd, k0, k1, k2, k3, k5, hC⟩ := exc52 w (X.keeps F₅.keep)
  refine wpAny_excMatches_sub_self hC hob hobc (by decide) (codeAny_handlers_suite ?_)
  refine lands_againW hheld fun h₆ hfl₆ hsm₆ => ?_
  have F₆ := F.of_stays (flyingW_base hB hfl₆).1 ((hsm.trans hsm₅).trans hsm₆)
  exact wpAny_passesOwnAt hE (k h₆ F₆ fun q hq => ⟨hfl₆.1 _ _ (hl q hq).1, (fun z => by have := (hl q hq).1; rw [z, hL] at this; cases this), (hl q hq).2⟩)
end
set_option maxRecDepth 100000 in
set_option maxHeartbeats 8000000 in
theorem mk_lit (w : World) (Rt : Led) (k : Int) (t1 t2 : Tok) : Calls w 334 [.str (Str.ofString "int") t1, .int k t2] 6 Rt (fun r led' => ∃ New, led' = New ++ Rt ∧ Above New Rt ∧ NodeIn w New r (.lit k)) := by
  unfold Calls
  intro p loose mean mg mb dp un gd cn cs a ccd cl outer A₀ base h₀ L m s Q E B F X N T hk hdp hun hret
  revert X; k_fill; intro X
  k_dflt (refine' call_cls ?k1 ?k2 ?k3 ?k4 ?k5 ?k6 ?_; (case k1 => k_asm); (case k2 => k_asm); (case k3 => k_asm); (case k4 => k_is); (case k5 => k_is); (case k6 => k_is); k_whole; intro x' d' h' F' N' l1 l2; (try k_lt l1); (try k_lt2 l2); (try k_sweep); (refine' code_def ?k1 ?k2 ?k3 ?k4 ?k5 ?kA ?kF ?kK ?k6 ?k7 ?k8 ?k9 ?kB ?_ ?c2 ?c3 ?c4 ?c5; (case kA => exact rfl); (case kF => exact rfl); (case kK => assumption); (case k1 => k_asm); (case k2 => k_asm); (case k3 => k_asm); (case k4 => k_asm); (case k5 => k_asm); (case k6 => k_is); (case k7 => k_is); (case k8 => ktr_room); (case k9 => first | exact BindsTo.of_eq rfl | exact binds_K (by k_in) rfl (by k_is) rfl rfl rfl); (case c5 => decide); (case kB => exact locs rfl); (case c2 => exact rfl); (case c3 => exact rfl); (case c4 => exact rfl); k_whole; intro g' L' h' FG' F' N' B' X' T'; (try dsimp only); (try k_fold)))
  k_steps
  exact hret _ _ _ _ (by assumption) (by assumption) ⟨[_, _], rfl, above1 (by assumption) (by assumption), .lit (.head _) (.tail _ (.head _))⟩
set_option maxRecDepth 100000 in
set_option maxHeartbeats 8000000 in
theorem mk_var (w : World) (Rt : Led) (t1 : Tok) : Calls w 307 [.str (Str.ofString "x") t1] 6 Rt (fun r led' => ∃ New, led' = New ++ Rt ∧ Above New Rt ∧ NodeIn w New r .var) := by
  unfold Calls
  intro p loose mean mg mb dp un gd cn cs a ccd cl outer A₀ base h₀ L m s Q E B F X N T hk hdp hun hret
  revert X; k_fill; intro X
  k_dflt (refine' call_cls ?k1 ?k2 ?k3 ?k4 ?k5 ?k6 ?_; (case k1 => k_asm); (case k2 => k_asm); (case k3 => k_asm); (case k4 => k_is); (case k5 => k_is); (case k6 => k_is); k_whole; intro x' d' h' F' N' l1 l2; (try k_lt l1); (try k_lt2 l2); (try k_sweep); (refine' code_def ?k1 ?k2 ?k3 ?k4 ?k5 ?kA ?kF ?kK ?k6 ?k7 ?k8 ?k9 ?kB ?_ ?c2 ?c3 ?c4 ?c5; (case kA => exact rfl); (case kF => exact rfl); (case kK => assumption); (case k1 => k_asm); (case k2 => k_asm); (case k3 => k_asm); (case k4 => k_asm); (case k5 => k_asm); (case k6 => k_is); (case k7 => k_is); (case k8 => ktr_room); (case k9 => first | exact BindsTo.of_eq rfl | exact binds_K (by k_in) rfl (by k_is) rfl rfl rfl); (case c5 => decide); (case kB => exact locs rfl); (case c2 => exact rfl); (case c3 => exact rfl); (case c4 => exact rfl); k_whole; intro g' L' h' FG' F' N' B' X' T'; (try dsimp only); (try k_fold)))
  k_steps
  exact hret _ _ _ _ (by assumption) (by assumption) ⟨[_, _], rfl, above1 (by assumption) (by assumption), .var (.head _) (.tail _ (.head _))⟩
set_option maxRecDepth 100000 in
set_option maxHeartbeats 8000000 in
theorem mk_op (w : World) (Rt : Led) (o : Op) (b : Bool) (hb : b = (o != .plus && o != .minus)) (t1 : Tok) : Calls w 112 [.str o.str t1, .bool b] 6 Rt (fun r led' => ∃ (a : Nat) (New : Led), r = .ref a ∧ led' = New ++ Rt ∧ Above New Rt ∧ OpIn w New a o) := by
  unfold Calls
  intro p loose mean mg mb dp un gd cn cs a ccd cl outer A₀ base h₀ L m s Q E B F X N T hk hdp hun hret
  revert X; k_fill; intro X
  k_dflt (refine' call_cls ?k1 ?k2 ?k3 ?k4 ?k5 ?k6 ?_; (case k1 => k_asm); (case k2 => k_asm); (case k3 => k_asm); (case k4 => k_is); (case k5 => k_is); (case k6 => k_is); k_whole; intro x' d' h' F' N' l1 l2; (try k_lt l1); (try k_lt2 l2); (try k_sweep); (refine' code_def ?k1 ?k2 ?k3 ?k4 ?k5 ?kA ?kF ?kK ?k6 ?k7 ?k8 ?k9 ?kB ?_ ?c2 ?c3 ?c4 ?c5; (case kA => exact rfl); (case kF => exact rfl); (case kK => assumption); (case k1 => k_asm); (case k2 => k_asm); (case k3 => k_asm); (case k4 => k_asm); (case k5 => k_asm); (case k6 => k_is); (case k7 => k_is); (case k8 => ktr_room); (case k9 => first | exact BindsTo.of_eq rfl | exact binds_K (by k_in) rfl (by k_is) rfl rfl rfl); (case c5 => decide); (case kB => exact locs rfl); (case c2 => exact rfl); (case c3 => exact rfl); (case c4 => exact rfl); k_whole; intro g' L' h' FG' F' N' B' X' T'; (try dsimp only); (try k_fold)))
  k_steps
  subst hb
  exact hret _ _ _ _ (by assumption) (by assumption) ⟨_, [_, _], rfl, rfl, above1 (by assumption) (by assumption), _, _, _, _, _, _, .head _, .tail _ (.head _)⟩
theorem op_head {o : Op} : (Txt.item o.str 0 == Str.ofString ":") = (o != .plus && o != .minus) := by cases o <;> decide +kernel
theorem op_item0 {prog : Program} {w : World} {A : Around} {E : Value → Shared → Prop} {s : Shared} {value slice : PySem.Expr} {o : Op} {t u : Tok} {Q : Value → Shared → Prop} (h : ∀ t', Q (.str (Txt.item o.str 0) t') { s with toks := s.toks + 1 })
    (hs : subscripted slice false (.str o.str t) (.int 0 u) = operate [.str o.str t, .int 0 u] (getItem (.str o.str t) (.int 0 u)) := by with_unfolding_all rfl)
    (ht : ∀ r, letTemporaryGo value (.str o.str t) r = pure () := by intro _; with_unfolding_all rfl) :
    wpAny (model prog w) A (subscriptTail value slice (.str o.str t) (.int 0 u)) Q E s :=
  item_str (by decide +kernel) (by cases o <;> decide +kernel) (by cases o <;> decide +kernel) (fun _ => h _) hs ht
set_option maxRecDepth 100000 in
set_option maxHeartbeats 8000000 in
theorem said_names : namesResolve PySem.Challenge.rw_og0006_01.row.prog = true := by kernel_rfl
set_option maxRecDepth 100000 in
set_option maxHeartbeats 8000000 in
theorem said_looks : looksOpen PySem.Challenge.rw_og0006_01.row.prog = true := by
  unfold looksOpen
  rw [said_names]
  kernel_rfl
set_option maxRecDepth 100000 in
set_option maxHeartbeats 8000000 in
theorem said_row : PySem.Challenge.rw_og0006_01.row.wellSaid = true := by
  unfold OpenRow.wellSaid OpenRow.partSaid
  rw [said_looks]
  kernel_rfl
set_option maxRecDepth 100000 in
set_option maxHeartbeats 8000000 in
theorem law_said : PySem.Challenge.rw_og0006_01.wellSaid = true := by
  unfold OpenLaw.wellSaid
  rw [said_row]
  kernel_rfl
noncomputable def MarkMake : Prop := True
theorem ne_nil0 {w : World} {A : Around} {E : Value → Shared → Prop} {s : Shared} {h₀ : Heap} {L : Addr} {news : Led} {Q : Value → Shared → Prop} {l b : Nat} {n n2 : Nat} (N : News h₀ L s.heap news) (hm : (l, listOf #[] n) ∈ news) (hb : (b, listOf [].toArray n2) ∈ news) (hu : A.units < cLine) (h : Q (.bool false) s) :
    wpAny (model PySem.Challenge.rw_og0006_01.row.prog w) A (compareOp .NotEq (.ref l) (.ref b)) Q E s := ne_nil N hm hb hu (by simpa using h)
theorem ne_nil1 {w : World} {A : Around} {E : Value → Shared → Prop} {s : Shared} {h₀ : Heap} {L : Addr} {news : Led} {Q : Value → Shared → Prop} {l b : Nat} {v : Value} {n n2 : Nat} (N : News h₀ L s.heap news) (hm : (l, listOf #[v] n) ∈ news) (hb : (b, listOf [].toArray n2) ∈ news) (hu : A.units < cLine) (h : Q (.bool true) s) :
    wpAny (model PySem.Challenge.rw_og0006_01.row.prog w) A (compareOp .NotEq (.ref l) (.ref b)) Q E s := ne_nil N hm hb hu (by simpa using h)
local macro_rules | `(tactic| walk_at "compareOp NotEq ref ref") => sq [dk (orT [ru "ne_nil1" "ammv_", ru "ne_nil0" "ammv_"])]
theorem due_is {led : Led} {v : Value} {t : Tr} {q : Option Pt} (hq : nodeOf t = q) (h : NodeIs led v q) : NodeIs led v ([t].head?.bind nodeOf) := by subst hq; exact h
theorem one_item {w : World} {A : Around} {E : Value → Shared → Prop} {s : Shared} {h₀ : Heap} {L : Addr} {news : Led} {a n : Nat} {u : Tok} {v : Value} {value slice : PySem.Expr} {Q : Value → Shared → Prop} (N : News h₀ L s.heap news) (hm : (a, listOf #[v] n) ∈ news) (h : Q v s)
    (hs : subscripted slice false (.ref a) (.int 0 u) = operate [.ref a, .int 0 u] (getItem (.ref a) (.int 0 u)) := by with_unfolding_all rfl) :
    wpAny (model PySem.Challenge.rw_og0006_01.row.prog w) A (subscriptTail value slice (.ref a) (.int 0 u)) Q E s := lst_item N hm (v := v) rfl (by decide) (by decide) h hs
local macro_rules | `(tactic| walk_at "subscriptTail") => sq [atSub "Value.int _ _", dk (ru "one_item" "am_w")]
local macro_rules | `(tactic| walk_at "subscriptTail") => sq [atSub "Value.int _ _", dk (ru "tup_item" "amddrr_w")]
local macro_rules | `(tactic| walk_at "eval Name") => sq [atT "eval ( Expr.Name _ _ ) ( compEnvC _ _ _ _ )", ruI "lcf_cell" "aRmH_rr" [5, 6] dk]
local macro_rules | `(tactic| walk_at "eval Name") => sq [atT "eval ( Expr.Name _ _ ) ( compEnvC _ _ _ _ )", ruI "comp_name" "hham_rr" [5, 6] dk]
local macro_rules | `(tactic| walk_at "compareOp Eq ref ref") => sq [stop1 "MarkMake"]
local macro_rules | `(tactic| walk_at "call type:dict") => sq [stop1 "MarkMake"]
theorem len_led {w : World} {A : Around} {E : Value → Shared → Prop} {s : Shared} {h₀ : Heap} {L : Addr} {news : Led} {a n : Nat} {vs : Array Value} {Q : Value → Shared → Prop} (N : News h₀ L s.heap news) (hm : (a, listOf vs n) ∈ news) (hz : vs.size ≤ 1) (h : ∀ (K : Int) t tk, 0 ≤ K → K ≤ 1 → Q (.int K t) { s with toks := tk }) :
    wpAny (model PySem.Challenge.rw_og0006_01.row.prog w) A (call (.builtin "len") [.ref a]) Q E s := PyProof.Rows.len_list (listOf_isList (N _ hm).1) (by omega) (h _ _ _ (by omega) (by omega))
local macro_rules | `(tactic| walk_at "call builtin:len") => sq [atT "call ( Value.builtin _ ) ( List.cons ( Value.ref _ ) List.nil ) _", dk (ru "len_led" "amh_"), tl "kL tL tkL kL0 kL1" ""]
local macro_rules | `(tactic| walk_at "subscriptTail Name Constant str int") => sq [atT "subscriptTail _ _ ( Value.str ( Op.str _ ) _ ) ( Value.int _ _ )", dk (ru "op_item0" "_wW"), tl "t0'" ""]
theorem pull_cell {g h : Heap} {L : Addr} {led R' : Led} {c : Nat} {oc : Obj} (N : News g L h led) (hR : ∀ p ∈ R', p ∈ led) (hc : (c, oc) ∈ R') :
    ∃ R2 : Led, (∀ p ∈ R2, @Ne Nat p.1 c) ∧ (∀ p ∈ R2, p ∈ R') ∧ ∀ p ∈ R', p.2 ≠ oc → p ∈ R2 := by
  refine ⟨R'.filter fun p => decide (@Ne Nat p.1 c), ?_, ?_, ?_⟩
  · intro p hp; simpa using (List.mem_filter.mp hp).2
  · intro p hp; exact (List.mem_filter.mp hp).1
  · intro p hp hne
    refine List.mem_filter.mpr ⟨hp, ?_⟩
    simp only [ne_eq, decide_not, Bool.not_eq_eq_eq_not, Bool.not_true, decide_eq_false_iff_not]
    intro e
    have h1 := (N p (hR p hp)).1
    have h2 := (N (c, oc) (hR _ hc)).1
    rw [show p.1 = c from e] at h1
    exact hne (Option.some.inj (h1.symm.trans h2))
noncomputable def ItJ (w : World) (li : Nat) (R : Led) (row : List RE) (m₀ : Loc) (_ : Addr × Obj) (i : Nat) (m : Loc) (news : Led) : Prop :=
  ∃ (u : Option Value) (items : Array Value) (k : Nat) (R' : Led), m = (fun y => if y = Str.ofString "one" then u else m₀ y) ∧ news = (li, listOf items k) :: R' ∧ (∀ p ∈ R, p ∈ R') ∧ (∀ p ∈ R', @Ne Nat p.1 li) ∧ All2 (ItIn w R') items.toList (row.take i) ∧ items.size ≤ i
local macro_rules | `(tactic| walk_at "subscriptTail") => sq [atSub "Value.str _ _", dk (ru "lv_item" "amhh_wW"), tl "a9 tw9 tl9 hm9" ""]
local macro_rules | `(tactic| walk_at "exec Try") => sq [atT "exec ( Stmt.Try _ ( List.cons _ _ ) _ List.nil _ ) _", rf "wpAny_Try_except ?_"]
local macro_rules | `(tactic| walk_at "exec Try") => sq [atT "exec ( Stmt.Try _ ( List.cons _ _ ) _ List.nil _ ) _", stop1 "MarkMake"]
section
variable {prog : Program} {w : World} {A : Around} {E : Value → Shared → Prop} {s : Shared} {env : Env} {h₀ : Heap} {L : Addr} {x : Str} {Q : Value → Shared → Prop}
theorem comp_evalS {elt iter : Expr} {px : Pos} {ifs : List Expr} {scope : Scope} {cl : List (Str × Addr)} {pos : Pos}
    {m0 : Loc} {h9 : Heap} (F9 : Fr h₀ L h9 m0)
    (hclos : closureFor scope env = pure cl) (hcell : ∀ y ∈ scope.names, y.2 ≠ .cell) (hkind : scope.kind = .function) (hnames : ∀ y ∈ scope.names, y.2 = .local → scope.names.lookup y.1 = some .local) (hx : scope.names.lookup x = some .local) (hh : A.handled = none)
    (h : wpAny (model prog w) A (eval iter env) (fun xv s₁ => Stop (∃ (l : Nat) (vs : Array Value) (n : Nat) (m : Loc) (news : Led) (J : Nat → Array Value → Led → Prop), xv = .ref l ∧ Fr h₀ L s₁.heap m ∧ News h₀ L s₁.heap news ∧ (l, listOf vs n) ∈ news ∧ J 0 #[] news ∧ (∀ i ys nw, J i ys nw → (l, listOf vs n) ∈ nw) ∧ (∀ i ys nw, J i ys nw → ys.size ≤ sizeLine) ∧
      CompTurns prog w A env scope cl elt ifs h₀ L x vs m J s₁ ∧
      (∀ (D : Nat) ys k nw h tk, J vs.size ys nw → Fr h₀ L h m → News h₀ L h ((D, listOf ys k) :: nw) → (∀ p ∈ nw, p.1 ≠ D) → (∀ p ∈ news, @LT.lt Nat _ p.1 D) → Q (.ref D) { s₁ with heap := h, toks := tk }))) E s)
    (hs : ∀ x, foldedSetIterable iter env x = pure x := by intro _; rfl) :
    wpAny (model prog w) A (eval (.ListComp elt [⟨.Name x px, iter, ifs, 0⟩] scope pos) env) Q E s := comp_evalF F9 hclos hcell hkind hnames hx hh h hs
end
theorem led_of {g h : Heap} {L : Addr} {li c d lr D src k : Nat} {oc od oD so ol : Obj} {R3 : Led} {kvs : List (Str × Value)} {lv : Lv} {vs : Array Value} {row : List RE} (N : News g L h ((li, ol) :: (D, oD) :: (c, oc) :: (src, so) :: R3)) (l : @LT.lt Nat _ D li ∧ @LT.lt Nat _ c li ∧ @LT.lt Nat _ src li ∧ AllLt li R3) (hd : (d, od) ∈ R3) (hlr : (lr, listOf vs k) ∈ R3) (hLv : LvIn R3 kvs lv) (hrow : All2 (ReIn R3) vs.toList row) :
    ∃ R4 : Led, News g L h ((li, ol) :: R4) ∧ (∀ p ∈ R4, @LT.lt Nat _ p.1 li) ∧ (c, oc) ∈ R4 ∧ (d, od) ∈ R4 ∧ (lr, listOf vs k) ∈ R4 ∧ LvIn R4 kvs lv ∧ All2 (ReIn R4) vs.toList row := by
  have up : ∀ p ∈ R3, p ∈ (D, oD) :: (c, oc) :: (src, so) :: R3 := fun p hp => .tail _ (.tail _ (.tail _ hp))
  refine ⟨(D, oD) :: (c, oc) :: (src, so) :: R3, N, ?_, .tail _ (.head _), up _ hd, up _ hlr, fun o => (hLv o).mono up, hrow.mono fun _ _ x => x.mono up⟩
  intro p hp
  rcases List.mem_cons.mp hp with rfl | hp
  · exact l.1
  rcases List.mem_cons.mp hp with rfl | hp
  · exact l.2.1
  rcases List.mem_cons.mp hp with rfl | hp
  · exact l.2.2.1
  · exact allLt_mem l.2.2.2 p hp
theorem it_led {g h : Heap} {L : Addr} {I li k : Nat} {oI : Obj} {items : Array Value} {New R' : Led} (N : News g L h (New ++ ((I, oI) :: (li, listOf items k) :: R'))) (hA : Above New ((I, oI) :: (li, listOf items k) :: R')) (hI : @Ne Nat li I) (hne : ∀ p ∈ R', @Ne Nat p.1 li) (g3 : ∀ p ∈ R', @Ne Nat p.1 I) :
    News g L h ((li, listOf items k) :: (I, oI) :: (New ++ R')) ∧ (∀ p ∈ New ++ R', @Ne Nat p.1 li) ∧ (∀ p ∈ New ++ R', @Ne Nat p.1 I) ∧ (∀ p ∈ (I, oI) :: (New ++ R'), @Ne Nat p.1 li) := by
  have a1 : ∀ p ∈ New ++ R', @Ne Nat p.1 li := fun p hp => (List.mem_append.mp hp).elim (fun h => Nat.ne_of_gt (hA p h _ (.tail _ (.head _)))) (hne p)
  refine ⟨News.sub N (by grind), a1, fun p hp => (List.mem_append.mp hp).elim (fun h => Nat.ne_of_gt (hA p h _ (.head _))) (g3 p), ?_⟩
  intro p hp
  rcases List.mem_cons.mp hp with rfl | hp
  · exact Ne.symm hI
  · exact a1 p hp
theorem ItJ.push {w : World} {g h : Heap} {L : Addr} {I li k tk i : Nat} {oI : Obj} {items : Array Value} {R R' R2 : Led} {row : List RE} {m m₀ : Loc} {x : Addr × Obj} {s : Shared} {Q : Flow → Shared → Prop} {v : Value} {e : RE} {u : Option Value} (F : Fr g L h m) (em : m = fun y => if y = Str.ofString "one" then u else m₀ y) (N : News g L h ((li, listOf (items.push v) k) :: (I, oI) :: R2)) (hI : @Ne Nat li I) (hne : ∀ p ∈ R2, @Ne Nat p.1 li) (g3 : ∀ p ∈ R2, @Ne Nat p.1 I)
    (hs : ∀ p ∈ R, p ∈ R') (hs2 : ∀ p ∈ R', p ∈ R2) (hall : All2 (ItIn w R') items.toList (row.take i)) (hsz : items.size ≤ i) (he : row[i]? = some e) (hv : ItIn w R2 v e) :
    TurnPost g L I oI (ItJ w li R row m₀ x (i + 1)) s Q .next { s with heap := h, toks := tk } := by
  refine ⟨h, tk, m, (li, listOf (items.push v) k) :: R2, rfl, F, News.sub N (by grind), ?_, u, items.push v, k, R2, em, rfl, fun p hp => hs2 p (hs p hp), hne, ?_, by rw [Array.size_push]; omega⟩
  · intro p hp
    rcases List.mem_cons.mp hp with rfl | hp
    · exact hI
    · exact g3 p hp
  · rw [Array.toList_push, List.take_add_one, he]
    exact All2.append (hall.mono fun _ _ x => x.mono hs2) (.cons hv .nil)
theorem fin_led {w : World} {g h : Heap} {L : Addr} {li c d lr k k' : Nat} {oc od : Obj} {R4 R' : Led} {kvs : List (Str × Value)} {lv : Lv} {vs items : Array Value} {row : List RE} (N : News g L h ((li, listOf items k') :: R')) (hs : ∀ p ∈ R4, p ∈ R') (hall : All2 (ItIn w R') items.toList (row.take vs.size)) (hc : (c, oc) ∈ R4) (hd : (d, od) ∈ R4) (hlr : (lr, listOf vs k) ∈ R4) (hLv : LvIn R4 kvs lv) (hrow : All2 (ReIn R4) vs.toList row) :
    ∃ R5 : Led, News g L h R5 ∧ (li, listOf items k') ∈ R5 ∧ (c, oc) ∈ R5 ∧ (d, od) ∈ R5 ∧ (lr, listOf vs k) ∈ R5 ∧ LvIn R5 kvs lv ∧ All2 (ReIn R5) vs.toList row ∧ All2 (ItIn w R5) items.toList row := by
  have up : ∀ p ∈ R4, p ∈ (li, listOf items k') :: R' := fun p hp => .tail _ (hs p hp)
  have hz := hrow.length
  rw [Array.length_toList] at hz
  rw [List.take_of_length_le (by omega)] at hall
  exact ⟨(li, listOf items k') :: R', N, .head _, up _ hc, up _ hd, up _ hlr, hLv.up up, hrow.mono fun _ _ x => x.mono up, hall.mono fun _ _ x => x.mono fun p hp => .tail _ hp⟩
noncomputable def DueMid (g : Heap) (L : Addr) (m : Loc) (R : Led) (q : Option Pt) (s s' : Shared) : Prop :=
  ∃ (h' : Heap) (tk' : Nat) (dv : Value) (led : Led), s' = { s with heap := h', toks := tk' } ∧ Fr g L h' (fun y => if y = Str.ofString "due" then some dv else m y) ∧ News g L h' led ∧ (∀ p ∈ R, p ∈ led) ∧ NodeIs led dv q
theorem due_cut {M : Model} {A : Around} {E : Value → Shared → Prop} {x : Sem Flow} {Q : Flow → Shared → Prop} {g h : Heap} {L : Addr} {m : Loc} {s1 : Shared} (R : Led) (q : Option Pt) (s : Shared) (_F : Fr g L h m)
    (h1 : wpAny M A x (fun f s' => f = .next ∧ DueMid g L m R q s s') E s1) (h2 : ∀ s', DueMid g L m R q s s' → Q .next s') : wpAny M A x Q E s1 :=
  wpAny_mono h1 (fun f s' p => by obtain ⟨rfl, p⟩ := p; exact h2 s' p) fun _ _ e => e
theorem led_top {g h : Heap} {L : Addr} {x : Addr × Obj} {led : Led} (N : News g L h (x :: led)) : ∃ R7 : Led, News g L h R7 ∧ x ∈ R7 ∧ ∀ p ∈ led, p ∈ R7 := ⟨_, N, .head _, fun _ hp => .tail _ hp⟩
noncomputable def PrIn (w : World) (R : Led) (lv : Lv) (v : Value) (o : Op) : Prop := ∃ (a f : Nat) (t : Tok), v = .ref a ∧ (a, tupOf [.str o.str t, .ref f]) ∈ R ∧ FxIn w R f (lv o)
theorem PrIn.mono {w : World} {R R' : Led} {lv : Lv} {v : Value} {o : Op} (hs : ∀ p ∈ R, p ∈ R') (h : PrIn w R lv v o) : PrIn w R' lv v o := by
  obtain ⟨a, f, t, h1, h2, h3⟩ := h
  exact ⟨a, f, t, h1, hs _ h2, h3.mono hs⟩
abbrev cons3 : List Op := [.plusC, .timesC, .eqC]
noncomputable def CpJ (w : World) (R : Led) (lv : Lv) (i : Nat) (ys : Array Value) (nw : Led) : Prop := ∃ New, nw = New ++ R ∧ Above New R ∧ All2 (PrIn w (New ++ R) lv) ys.toList (cons3.take i)
theorem cp_item {i : Nat} {t1 t2 t3 : Tok} {v : Value} (h : #[Value.str (Str.ofString ":+") t1, .str (Str.ofString ":*") t2, .str (Str.ofString ":=") t3][i]? = some v) : ∃ (o : Op) (t : Tok), v = .str o.str t ∧ cons3[i]? = some o := by
  rcases i with _ | _ | _ | i
  · cases h; exact ⟨.plusC, _, rfl, rfl⟩
  · cases h; exact ⟨.timesC, _, rfl, rfl⟩
  · cases h; exact ⟨.eqC, _, rfl, rfl⟩
  · simp at h
theorem cp_push {w : World} {g h' : Heap} {L : Addr} {m : Loc} {C D I i k tk' x f : Nat} {oC oI : Obj} {ys : Array Value} {R New New2 : Led} {lv : Lv} {o : Op} {t : Tok} {s : Shared} (F : Fr g L h' m) (N : News g L h' ((x, tupOf [.str o.str t, .ref f]) :: (New2 ++ ((C, oC) :: (D, listOf ys k) :: (I, oI) :: (New ++ R))))) (hne : ∀ p ∈ New ++ R, p.1 ≠ C ∧ p.1 ≠ D ∧ p.1 ≠ I) (hA : Above New R) (hA2 : Above New2 ((C, oC) :: (D, listOf ys k) :: (I, oI) :: (New ++ R))) (hx : ∀ p ∈ New2 ++ ((C, oC) :: (D, listOf ys k) :: (I, oI) :: (New ++ R)), @LT.lt Nat _ p.1 x) (hall : All2 (PrIn w (New ++ R) lv) ys.toList (cons3.take i)) (ho : cons3[i]? = some o) (hf : FxIn w New2 f (lv o)) :
    CompEnd g L m I C D oI oC ys k (CpJ w R lv (i + 1)) s (.ref x) { s with heap := h', toks := tk' } := by
  refine ⟨h', tk', ((x, tupOf [.str o.str t, .ref f]) :: New2 ++ New) ++ R, rfl, F, News.sub N (by grind), ?_, (x, tupOf [.str o.str t, .ref f]) :: New2 ++ New, rfl, ?_, ?_⟩
  · intro p hp
    rw [List.append_assoc] at hp
    rcases List.mem_append.mp hp with hp | hp
    · rcases List.mem_cons.mp hp with rfl | hp
      · exact ⟨Nat.ne_of_gt (hx _ (List.mem_append.mpr (.inr (.head _)))), Nat.ne_of_gt (hx _ (List.mem_append.mpr (.inr (.tail _ (.head _))))), Nat.ne_of_gt (hx _ (List.mem_append.mpr (.inr (.tail _ (.tail _ (.head _))))))⟩
      · exact ⟨Nat.ne_of_gt (hA2 p hp _ (.head _)), Nat.ne_of_gt (hA2 p hp _ (.tail _ (.head _))), Nat.ne_of_gt (hA2 p hp _ (.tail _ (.tail _ (.head _))))⟩
    · exact hne p hp
  · intro p hp z hz
    rcases List.mem_append.mp hp with hp | hp
    · rcases List.mem_cons.mp hp with rfl | hp
      · exact hx z (List.mem_append.mpr (.inr (.tail _ (.tail _ (.tail _ (List.mem_append.mpr (.inr hz)))))))
      · exact hA2 p hp z (.tail _ (.tail _ (.tail _ (List.mem_append.mpr (.inr hz)))))
    · exact hA p hp z hz
  · rw [Array.toList_push, List.take_add_one, ho]
    have up : ∀ p ∈ New2, p ∈ ((x, tupOf [.str o.str t, .ref f]) :: New2 ++ New) ++ R := by grind
    exact All2.append (hall.mono fun _ _ x => x.mono (by grind)) (.cons ⟨x, f, t, rfl, List.mem_append.mpr (.inl (List.mem_append.mpr (.inl (.head _)))), hf.mono up⟩ .nil)
theorem cp_dict {w : World} {R : Led} {lv : Lv} {ys : Array Value} (hall : All2 (PrIn w R lv) ys.toList cons3) :
    ∃ ps : List (Str × Value), All2 (fun v (p : Str × Value) => ∃ (a : Nat) (t : Tok), v = .ref a ∧ (a, tupOf [.str p.1 t, p.2]) ∈ R) ys.toList ps ∧ KnIn w R (storedAll [] ps) lv ∧ ys.size ≤ 100 := by
  obtain ⟨yl⟩ := ys
  cases hall with
  | cons a1 r1 => cases r1 with
    | cons a2 r2 => cases r2 with
      | cons a3 r3 =>
        cases r3
        obtain ⟨x1, f1, t1, rfl, m1, h1⟩ := a1
        obtain ⟨x2, f2, t2, rfl, m2, h2⟩ := a2
        obtain ⟨x3, f3, t3, rfl, m3, h3⟩ := a3
        refine ⟨[(Op.str .plusC, .ref f1), (Op.str .timesC, .ref f2), (Op.str .eqC, .ref f3)], .cons ⟨_, _, rfl, m1⟩ (.cons ⟨_, _, rfl, m2⟩ (.cons ⟨_, _, rfl, m3⟩ .nil)), fun o => ⟨?_, ?_⟩, by simp⟩
        · rintro (rfl | rfl | rfl)
          · exact ⟨f1, by simp only [storedAll, List.foldl, valueAt_stored]; rw [if_neg (by decide), if_neg (by decide), if_pos trivial], h1⟩
          · exact ⟨f2, by simp only [storedAll, List.foldl, valueAt_stored]; rw [if_neg (by decide), if_pos trivial], h2⟩
          · exact ⟨f3, by simp only [storedAll, List.foldl, valueAt_stored]; rw [if_pos trivial], h3⟩
        · rintro (rfl | rfl)
          · simp only [storedAll, List.foldl, valueAt_stored]; rw [if_neg (by decide), if_neg (by decide), if_neg (by decide)]; rfl
          · simp only [storedAll, List.foldl, valueAt_stored]; rw [if_neg (by decide), if_neg (by decide), if_neg (by decide)]; rfl
theorem NodeIs.up {R R' : Led} {v : Value} {q : Option Pt} (h : NodeIs R v q) (hs : ∀ p ∈ R, p ∈ R') : NodeIs R' v q := by
  cases q with
  | none => exact h
  | some q => exact PtIn.up h hs
noncomputable def ToldMid (g : Heap) (L : Addr) (m : Loc) (lt nt : Nat) (ts : Array Value) (dv : Value) (q : Option Pt) (s s' : Shared) : Prop :=
  ∃ (h' : Heap) (tk' : Nat) (tv : Value) (led : Led), s' = { s with heap := h', toks := tk' } ∧ Fr g L h' (fun y => if y = Str.ofString "told" then some tv else m y) ∧ News g L h' led ∧ (lt, listOf ts nt) ∈ led ∧ NodeIs led dv q ∧ NodeIs led tv q
theorem told_cut {M : Model} {A : Around} {E : Value → Shared → Prop} {x : Sem Flow} {Q : Flow → Shared → Prop} {g h : Heap} {L : Addr} {m : Loc} {s1 : Shared} (lt nt : Nat) (ts : Array Value) (dv : Value) (q : Option Pt) (s : Shared) (_F : Fr g L h m)
    (h1 : wpAny M A x (fun f s' => f = .next ∧ ToldMid g L m lt nt ts dv q s s') E s1) (h2 : ∀ s', ToldMid g L m lt nt ts dv q s s' → Q .next s') : wpAny M A x Q E s1 :=
  wpAny_mono h1 (fun f s' p => by obtain ⟨rfl, p⟩ := p; exact h2 s' p) fun _ _ e => e
theorem parse_depth {lv : Lv} {row : List RE} {q : Pt} (hm : lv .minus = ⟨.left, 6⟩) (hwf : WF true row) (hlen : row.length ≤ 12) (hq : parse ptAlg lv row = some q) : q.depth ≤ 13 := by
  rw [plain_law_pt hm hwf hlen] at hq
  cases h : trees lv 12 row with
  | nil => rw [h] at hq; cases hq
  | cons t r =>
    rw [h] at hq
    have h1 := depth_size (show nodeOf t = some q from hq)
    have h2 := trees_size lv 12 row hwf t (by rw [h]; exact .head _)
    omega
theorem poolPost_use {led : Led} {r : Value} {led' : Led} {C : Value → Led → Prop} (h : ∃ (src n : Nat) (x y : Int) (t1 t2 : Tok), r = .ref src ∧ led' = (src, listOf #[.int x t1, .int y t2] n) :: led ∧ 0 ≤ y ∧ y < 2^40 ∧ AllLt src led) (k : ∀ (src n : Nat) (x y : Int) (t1 t2 : Tok), 0 ≤ y → y < 2^40 → AllLt src led → C (.ref src) ((src, listOf #[.int x t1, .int y t2] n) :: led)) : C r led' := by
  obtain ⟨src, n, x, y, t1, t2, rfl, rfl, a, b, c⟩ := h
  exact k src n x y t1 t2 a b c
theorem rowPost_use {src : Nat} {R : Led} {r : Value} {led' : Led} {C : Value → Led → Prop} (h : ∃ so lr vs k R' row, r = .ref lr ∧ SrcObj so ∧ led' = (src, so) :: R' ∧ (∀ p ∈ R, p ∈ R') ∧ (∀ p ∈ R', p.1 ≠ src) ∧ (lr, listOf vs k) ∈ R' ∧ All2 (ReIn R') vs.toList row ∧ WF true row ∧ row.length ≤ 12) (k : ∀ so (lr : Nat) vs (k : Nat) R' row, SrcObj so → (∀ p ∈ R, p ∈ R') → (∀ p ∈ R', p.1 ≠ src) → (lr, listOf vs k) ∈ R' → All2 (ReIn R') vs.toList row → WF true row → row.length ≤ 12 → C (.ref lr) ((src, so) :: R')) : C r led' := by
  obtain ⟨so, lr, vs, n, R', row, rfl, a, rfl, b, c, d, e, f, g⟩ := h
  exact k so lr vs n R' row a b c d e f g
theorem ItJ.use {w : World} {li : Nat} {R : Led} {row : List RE} {m₀ : Loc} {x : Addr × Obj} {i : Nat} {m : Loc} {news : Led} {C : Loc → Led → Prop} (h : ItJ w li R row m₀ x i m news) (k : ∀ (u : Option Value) (items : Array Value) (k : Nat) (R' : Led), (∀ p ∈ R, p ∈ R') → (∀ p ∈ R', @Ne Nat p.1 li) → All2 (ItIn w R') items.toList (row.take i) → items.size ≤ i → C (fun y => if y = Str.ofString "one" then u else m₀ y) ((li, listOf items k) :: R')) : C m news := by
  obtain ⟨u, items, n, R', rfl, rfl, a, b, c, d⟩ := h
  exact k u items n R' a b c d
theorem DueMid.use {g : Heap} {L : Addr} {m : Loc} {R : Led} {q : Option Pt} {s s' : Shared} {C : Shared → Prop} (h : DueMid g L m R q s s') (k : ∀ (h' : Heap) (tk' : Nat) (dv : Value) (led : Led), Fr g L h' (fun y => if y = Str.ofString "due" then some dv else m y) → News g L h' led → (∀ p ∈ R, p ∈ led) → NodeIs led dv q → C { s with heap := h', toks := tk' }) : C s' := by
  obtain ⟨h', tk', dv, led, rfl, a, b, c, d⟩ := h
  exact k h' tk' dv led a b c d
theorem ToldMid.use {g : Heap} {L : Addr} {m : Loc} {lt nt : Nat} {ts : Array Value} {dv : Value} {q : Option Pt} {s s' : Shared} {C : Shared → Prop} (h : ToldMid g L m lt nt ts dv q s s') (k : ∀ (h' : Heap) (tk' : Nat) (tv : Value) (led : Led), Fr g L h' (fun y => if y = Str.ofString "told" then some tv else m y) → News g L h' led → (lt, listOf ts nt) ∈ led → NodeIs led dv q → NodeIs led tv q → C { s with heap := h', toks := tk' }) : C s' := by
  obtain ⟨h', tk', tv, led, rfl, a, b, c, d, e⟩ := h
  exact k h' tk' tv led a b c d e
theorem and4 {a b c d K : Prop} (h : a ∧ b ∧ c ∧ d) (k : a → b → c → d → K) : K := k h.1 h.2.1 h.2.2.1 h.2.2.2
theorem ex1_3 {α : Sort _} {A B D : α → Prop} {C : Prop} (h : ∃ x, A x ∧ B x ∧ D x) (k : ∀ x, A x → B x → D x → C) : C := let ⟨x, h0, h1, h2⟩ := h; k x h0 h1 h2
theorem ex1_8 {α : Sort _} {A B D E F G H I : α → Prop} {C : Prop} (h : ∃ x, A x ∧ B x ∧ D x ∧ E x ∧ F x ∧ G x ∧ H x ∧ I x) (k : ∀ x, A x → B x → D x → E x → F x → G x → H x → I x → C) : C := let ⟨x, h0, h1, h2, h3, h4, h5, h6, h7⟩ := h; k x h0 h1 h2 h3 h4 h5 h6 h7
theorem ex_list {α : Type} (l : List α) {C : Prop} (h0 : l = [] → C) (h1 : ∀ t r, l = t :: r → C) : C := by
  cases l with
  | nil => exact h0 rfl
  | cons t r => exact h1 t r rfl
theorem ex_opt {α : Type} (x : Option α) {C : Prop} (h0 : x = none → C) (h1 : ∀ q, x = some q → C) : C := by
  cases x with
  | none => exact h0 rfl
  | some q => exact h1 q rfl
theorem one_arr {R : Led} {t : Tr} {ts : Array Value} {C : Array Value → Prop} (h : All2 (TrIn R) ts.toList [t]) (k : ∀ v, TrIn R v t → C #[v]) : C ts := by
  obtain ⟨tl⟩ := ts
  cases h with
  | cons a1 a2 => cases a2; exact k _ a1
theorem none_arr {R : Led} {ts : Array Value} {C : Array Value → Prop} (h : All2 (TrIn R) ts.toList []) (k : C #[]) : C ts := by
  obtain ⟨tl⟩ := ts
  cases h
  exact k
theorem litPost {w : World} {R : Led} {r : Value} {led' : Led} {q : Pt} {C : Value → Led → Prop} (h : ∃ New, led' = New ++ R ∧ Above New R ∧ NodeIn w New r q) (k : ∀ (a : Nat) (New : Led), Above New R → NodeIn w New (.ref a) q → C (.ref a) (New ++ R)) : C r led' := by
  obtain ⟨New, rfl, hA, h⟩ := h
  obtain ⟨a, rfl⟩ := h.ref
  exact k a New hA h
theorem CpJ.use {w : World} {R : Led} {lv : Lv} {i : Nat} {ys : Array Value} {nw : Led} {C : Led → Prop} (h : CpJ w R lv i ys nw) (k : ∀ New, Above New R → All2 (PrIn w (New ++ R) lv) ys.toList (cons3.take i) → C (New ++ R)) : C nw := by
  obtain ⟨New, rfl, a, b⟩ := h
  exact k New a b
theorem PtIn.useRef {R : Led} {v : Value} {q : Pt} {C : Value → Prop} (h : PtIn R v q) (k : ∀ a : Nat, PtIn R (.ref a) q → C (.ref a)) : C v := by
  obtain ⟨a, rfl⟩ := h.isRef
  exact k a h
theorem cp_use {i : Nat} {t1 t2 t3 : Tok} {v : Value} {C : Value → Prop} (h : #[Value.str (Str.ofString ":+") t1, .str (Str.ofString ":*") t2, .str (Str.ofString ":=") t3][i]? = some v) (k : ∀ (o : Op) (t : Tok), cons3[i]? = some o → C (.str o.str t)) : C v := by
  obtain ⟨o, t, rfl, ho⟩ := cp_item h
  exact k o t ho
theorem r12 {t n : Nat} (h : t ≤ n) (h2 : n ≤ 12) : t + 1 ≤ 13 := Nat.succ_le_succ (Nat.le_trans h h2)
theorem u13 {a : Nat} (h : a ≤ 13) : 4 + 3 + 8 * a < 9000 := Nat.lt_of_le_of_lt (Nat.add_le_add_left (Nat.mul_le_mul_left 8 h) _) (by decide)
theorem e13 {a : Nat} (h : a ≤ 13) : 301 + 1 + a < 900 := Nat.lt_of_le_of_lt (Nat.add_le_add_left h _) (by decide)
theorem v13 {a : Nat} (h : a ≤ 13) : 4 + 3 + 8 * (6 * a) < 9000 := Nat.lt_of_le_of_lt (Nat.add_le_add_left (Nat.mul_le_mul_left 8 (Nat.mul_le_mul_left 6 h)) _) (by decide)
theorem d13 {a : Nat} (h : a ≤ 13) : 301 + 1 + 6 * a < 900 := Nat.lt_of_le_of_lt (Nat.add_le_add_left (Nat.mul_le_mul_left 6 h) _) (by decide)
local macro_rules | `(tactic| k_qdec) => `(tactic| decide +kernel)
set_option maxRecDepth 100000 in
set_option maxHeartbeats 8000000 in
theorem law_t : PySem.Challenge.rw_og0006_01.Holds := by
  refine holds_law law_said fun said => ?_
  refine holds_open (q := viewT) (loose := looseT) (Xt := XtT) (XP := XL viewT []) (Yf := Hook.obs HkT) (Ya := Hook.val HkT) (YP := Hook.says HkT) (N := 7184) t_left (Hook.of HkT) (Hook.keeps HkT) (fun s e => xl_of s (Bool.and_eq_true_iff.mp e).1) XL.keeps (by rfl) (by rfl) (by rfl) (fun s e => recFacts_of (Bool.and_eq_true_iff.mp e).2) (by rfl) (by first | assumption | decide +kernel) (by decide +kernel) ⟨rfl, rfl, rfl, rfl, rfl, by decide +kernel⟩ ?hw ?hc
  case hw => w_witness2
  k_go0
  rename Frag.In _ _ => KX
  revert KX; k_fill; intro KX
  try (rename Ground _ _ _ _ _ _ _ _ _ => z1; clear z1)
  try (rename Flt.MathXP _ _ _ => z1; clear z1)
  try (rename LooseAre _ _ _ => z1; clear z1)
  try (rename Glob _ _ _ _ _ _ _ _ => z1; clear z1)
  try (rename Tables _ _ _ _ => z1; clear z1)
  try (rename TopE _ _ _ _ => z1; clear z1)
  try (rename TopW _ _ _ => z1; clear z1)
  try (rename BMod _ _ _ _ _ => z1; clear z1)
  try (rename Dflts _ _ _ _ => z1; clear z1)
  try (rename Dflts _ _ _ _ _ => z1; clear z1)
  try (rename Hook.says _ _ _ => z1; clear z1)
  try (rename Well _ _ _ _ => z1; clear z1)
  try (rename Reads _ _ _ _ => z1; clear z1)
  try (rename ReadsAllW _ _ _ _ _ _ => z1; clear z1)
  try (rename ReadsAll _ _ _ _ => z1; clear z1)
  rename Top _ _ _ _ _ _ => T9
  generalize looseW viewT looseT = lo9 at T9
  generalize viewT = vT9 at T9
  all_goals (try k_fold)
  have mc391 : MarkC 391 := trivial
  k_steps
  unfold Stop
  rename World => w
  rename Shared => s1
  rename Obj => oc
  rename (Obj.data _ = _) => hoc
  have hoc : oc.data = .cell none := hoc
  rename IntsAre _ _ => hI9
  rename Heap.IsList _ _ _ => hL9
  rename (¬ _ < _) => hc9
  rename News _ _ _ _ => N9
  rename Fr _ _ _ _ => F9
  refine pool_ok _ _ _ _ hI9 (by omega) _ _ _ _ _ _ _ _ _ _ _ _ _ _ _ _ _ _ _ _ _ _ _ (by k_asm) F9 (by k_asm) N9 (by k_asm) ?_ ?_ ?_ hL9 ?_
  · exact rfl
  · ktr_room
  · ktr_units
  intro r1 l1 h1 tk1 F1 N1 P1
  revert N1
  apply poolPost_use P1
  intro src ns x y t1 t2 hy0 hy1 hsrc N1
  clear F9 N9 hI9 hL9 hc9
  have hS : SrcObj (listOf #[.int x t1, .int y t2] ns) := ⟨x, y, t1, t2, ns, rfl, hy0, hy1⟩
  generalize listOf #[.int x t1, .int y t2] ns = so at N1 hS
  have mc412 : MarkC 412 := trivial
  k_steps
  unfold Stop
  rename News _ _ _ _ => N9
  rename Fr _ _ _ _ => F9
  refine Calls.use (levels_ok w src so [(s1.heap.objs.size + 1, oc)] hS (fun p hp => by rw [List.mem_singleton.mp hp]; exact Nat.ne_of_lt hsrc.1)) (by k_asm) F9 (by k_asm) N9 (by k_asm) ?_ ?_ ?_ ?_
  · exact rfl
  · ktr_room
  · ktr_units
  clear F9 N9 hS hsrc
  intro r2 l2 h2 tk2 F2 N2 P2
  revert N2
  apply LvPost.use P2
  intro so2 d od kvs R1 lv hS hs1 hn1 hd hD hLv hLk N2
  have hc1 := hs1 _ (.head _)
  have mc405 : MarkC 405 := trivial
  k_steps
  unfold Stop
  rename News _ _ _ _ => N9
  rename Fr _ _ _ _ => F9
  refine Calls.use (row_ok w src so2 R1 hS hn1) (by k_asm) F9 (by k_asm) N9 (by k_asm) ?_ ?_ ?_ ?_
  · exact rfl
  · ktr_room
  · ktr_units
  clear F9 N9 hS
  intro r3 l3 h3 tk3 F3 N3 P3
  revert N3
  apply rowPost_use P3
  intro so3 lr vs k R2 row hS hs2 hn2 hlr hrow hwf hlen N3
  refine ex1_3 (pull_cell N3 (fun p hp => .tail _ hp) (hs2 _ hc1)) fun R3 hn3 hb3 hs3 => ?_
  have hd3 : (d, od) ∈ R3 := hs3 _ (hs2 _ hd) (fun e => by obtain ⟨es, ep, _, e2, _⟩ := hD; rw [show od = oc from e, hoc] at e2; cases e2)
  have hlr3 : (lr, listOf vs k) ∈ R3 := hs3 _ hlr (fun e => by rw [← e] at hoc; cases hoc)
  have hLv3 : LvIn R3 kvs lv := fun o => by
    obtain ⟨a, tw, tl, e1, e2⟩ := hLv o
    exact ⟨a, tw, tl, e1, hs3 _ (hs2 _ e2) (fun e => by rw [← e] at hoc; cases hoc)⟩
  have hrow3 : All2 (ReIn R3) vs.toList row := hrow.mono fun _ _ x => x.monoT fun p hp ht => hs3 _ hp (fun e => by obtain ⟨_, its, n9, e9⟩ := ht; rw [e, hoc] at e9; cases e9)
  replace N3 : News s1.heap s1.heap.objs.size h3 ((s1.heap.objs.size + 1, oc) :: (src, so3) :: R3) := News.sub N3 (by
    intro p hp
    rcases List.mem_cons.mp hp with rfl | hp
    · exact .tail _ (hs2 _ hc1)
    rcases List.mem_cons.mp hp with rfl | hp
    · exact .head _
    · exact .tail _ (hb3 _ hp))
  have hcs : @Ne Nat (s1.heap.objs.size + 1) src := hn1 _ hc1
  clear hrow hlr hLv hd hs2 hs1 hc1 hn1
  k_steps
  unfold Stop
  rename Fr _ _ _ _ => F4
  rename News _ _ _ _ => N4
  rename Obj => oc4
  rename oc4.data = _ => hoc4
  rename (_ ∧ _ ∧ _ ∧ AllLt _ R3) => l4
  rename_i D4 _ _ _ _ li _ _
  with_unfolding_all refine' For_invVF F4 ?hx ?hp ?_; (case hx => rfl); (case hp => rfl)
  walk1
  refine ex1_7 (led_of N4 l4 hd3 hlr3 hLv3 hrow3) fun R4 N5 hR4 hc4 hd4 hlr4 hLv4 hrow4 => ?_
  clear N4 hLv3 hrow3 hd3 hlr3 hs3 hb3 hn3
  refine iter_list (l := lr) (ItJ w li R4 row) (by rfl) F4 N5 (.tail _ hlr4) ⟨_, #[], 0, R4, loc_same, rfl, fun _ h => h, fun p hp => Nat.ne_of_lt (hR4 p hp), .nil, Nat.zero_le _⟩ ?_ ?_ ?_
  · intro i m news h9
    apply ItJ.use h9
    intro u items k' R' hs _ _ _
    exact .tail _ (hs _ hlr4)
  · intro I i v₁ m₁ news₁ h tk oI hi hJ
    apply ItJ.use hJ
    intro u items k' R' hs hne hall hsz hnI F2 N2
    clear F4 N5
    refine ex1_2 (All2.get hrow4 (by simpa using hi)) fun e he hv => ?_
    have g1 : @Ne Nat li I := hnI _ (.head _)
    have g3 : ∀ p ∈ R', @Ne Nat p.1 I := fun p hp => hnI p (.tail _ hp)
    have hi12 : i < 12 := Nat.lt_of_lt_of_le (List.getElem?_eq_some_iff.mp he).1 hlen
    replace hv := hv.mono hs
    revert F2 he
    apply ReIn.use hv
    all_goals clear hv
    · intro k9 t9 F2 he
      have mc334 : MarkC 334 := trivial
      k_steps
      unfold Stop
      rename News _ _ _ _ => N9
      rename Fr _ _ _ _ => F9
      refine Calls.use (mk_lit w _ _ _ _) (by k_asm) F9 (by k_asm) N9 (by k_asm) ?_ ?_ ?_ ?_
      · exact rfl
      · ktr_room
      · ktr_units
      clear F9 N9
      intro r9 l9 h9 tk9 F9 N9 P9
      revert N9
      apply litPost P9
      intro a9 New hA hv9 N9
      refine and4 (it_led N9 hA g1 hne g3) fun N8 b1 b2 b3 => ?_
      clear N9
      k_steps
      exact ItJ.push (by assumption) loc_twice (by assumption) g1 b1 b2 hs (fun p hp => List.mem_append.mpr (.inr hp)) hall hsz he (.num (hv9.mono fun p hp => List.mem_append.mpr (.inl hp)))
    · intro a8 t8 hx8 F2 he
      have mc307 : MarkC 307 := trivial
      k_steps
      unfold Stop
      rename News _ _ _ _ => N9
      rename Fr _ _ _ _ => F9
      refine Calls.use (mk_var w _ _) (by k_asm) F9 (by k_asm) N9 (by k_asm) ?_ ?_ ?_ ?_
      · exact rfl
      · ktr_room
      · ktr_units
      clear F9 N9
      intro r9 l9 h9 tk9 F9 N9 P9
      revert N9
      apply litPost P9
      intro a9 New hA hv9 N9
      refine and4 (it_led N9 hA g1 hne g3) fun N8 b1 b2 b3 => ?_
      clear N9
      k_steps
      exact ItJ.push (by assumption) loc_twice (by assumption) g1 b1 b2 hs (fun p hp => List.mem_append.mpr (.inr hp)) hall hsz he (.var (hv9.mono fun p hp => List.mem_append.mpr (.inl hp)))
    · intro o t9 F2 he
      have mc112 : MarkC 112 := trivial
      k_steps
      unfold Stop
      rename News _ _ _ _ => N9
      rename Fr _ _ _ _ => F9
      refine Calls.use (mk_op w _ _ _ op_head _) (by k_asm) F9 (by k_asm) N9 (by k_asm) ?_ ?_ ?_ ?_
      · exact rfl
      · ktr_room
      · ktr_units
      clear F9 N9
      intro r9 l9 h9 tk9 F9 N9 P9
      revert N9
      apply opPost P9
      intro a9 New hA hv9 N9
      refine and4 (it_led N9 hA g1 hne g3) fun N8 b1 b2 b3 => ?_
      clear N9
      k_steps
      exact ItJ.push (by assumption) loc_twice (by assumption) g1 b1 b2 hs (fun p hp => List.mem_append.mpr (.inr hp)) hall hsz he (.op (hv9.mono fun p hp => List.mem_append.mpr (.inl hp)))
    · intro t9 F2 he
      have mc112 : MarkC 112 := trivial
      k_steps
      unfold Stop
      rename News _ _ _ _ => N9
      rename Fr _ _ _ _ => F9
      refine Calls.use (mk_op w _ .minus _ rfl _) (by k_asm) F9 (by k_asm) N9 (by k_asm) ?_ ?_ ?_ ?_
      · exact rfl
      · ktr_room
      · ktr_units
      clear F9 N9
      intro r9 l9 h9 tk9 F9 N9 P9
      revert N9
      apply opPost P9
      intro a9 New hA hv9 N9
      refine and4 (it_led N9 hA g1 hne g3) fun N8 b1 b2 b3 => ?_
      clear N9
      k_steps
      exact ItJ.push (by assumption) loc_twice (by assumption) g1 b1 b2 hs (fun p hp => List.mem_append.mpr (.inr hp)) hall hsz he (.minus (hv9.mono fun p hp => List.mem_append.mpr (.inl hp)))
  · intro m₁ news₁ h tk hJ
    apply ItJ.use hJ
    intro u items k' R' hs hne hall hsz F2 N2
    clear F4 N5
    k_steps
    unfold Stop
    rename News _ _ _ _ => N9
    rename Fr _ _ _ _ => F9
    replace N9 : News s1.heap s1.heap.objs.size _ _ := N9
    refine ex1_8 (fin_led N9 hs hall hc4 hd4 hlr4 hLv4 hrow4) fun R5 N6 hli5 hc5 hd5 hlr5 hLv5 hrow5 hit5 => ?_
    clear N9 hs hall hc4 hd4 hlr4 hLv4 hrow4 hne hR4 hsz
    refine Calls.use (trees_ok w lv hLk.minus 12 (by omega) row R5 d od kvs lr vs k hlen hwf hd5 hD hLv5 hlr5 hrow5) (by k_asm) F9 (by k_asm) N6 (by k_asm) ?_ ?_ ?_ ?_
    · exact rfl
    · ktr_room
    · ktr_units
    clear F9 N6
    intro r5 led5 h5 tk5 F5 N5 P5
    apply TreesPost.use P5
    intro lt ts nt hG5 hlt5 hq5 hts5
    clear hq5
    have ms : MarkStop := trivial
    k_steps
    unfold Stop
    rename News _ _ _ _ => N9
    rename Fr _ _ _ _ => F9
    refine due_cut led5 ((trees lv 12 row).head?.bind nodeOf) s1 F9 ?_ ?_
    · refine ex_list (trees lv 12 row) (fun htr => ?_) fun t rest htr => ?_
      · rw [htr] at hts5
        revert hlt5
        apply none_arr hts5
        intro hlt5
        k_steps
        · trivial
        · exact ⟨_, _, _, _, rfl, (by assumption), (by assumption), (fun p hp => .tail _ hp), by rw [htr]; rfl⟩
      ·
        have h1 := trees_one hLk.minus 12 row hwf
        have hz := trees_size lv 12 row hwf t (by rw [htr]; exact .head _)
        rw [htr] at h1 hts5
        have hr0 : rest = [] := List.eq_nil_of_length_eq_zero (Nat.le_zero.mp (Nat.le_of_succ_le_succ h1))
        subst hr0
        revert hlt5
        apply one_arr hts5
        intro v hv hlt5
        have mc445 : MarkC 445 := trivial
        k_steps
        unfold Stop
        rename News _ _ _ _ => N8
        rename Fr _ _ _ _ => F8
        refine Calls.use (node_ok w t _ _ (hv.up fun p hp => .tail _ hp)) (by k_asm) F8 (by k_asm) N8 (by k_asm) ?_ ?_ ?_ ?_
        · exact rfl
        · first | exact e13 (r12 hz hlen) | ktr_room
        · first | exact u13 (r12 hz hlen) | ktr_units
        clear F8 N8
        intro r9 led9 h9 tk9 F10 N10 P9
        have hs9 := P9.1.1
        have hN9 := P9.2
        k_steps
        · trivial
        · exact ⟨_, _, _, _, rfl, (by assumption), (by assumption), (fun p hp => hs9 _ (.tail _ hp)), by rw [htr]; exact due_is rfl hN9⟩
    · intro s6 hM6
      apply DueMid.use hM6
      intro h6 tk6 dv led6 F6 N6 hs6 hdv
      rw [← plain_law_pt hLk.minus hwf hlen] at hdv
      have up6 : ∀ p ∈ R5, p ∈ led6 := fun p hp => hs6 _ (hG5.1 _ hp)
      have hc6 := up6 _ hc5
      have hd6 := up6 _ hd5
      have hli6 := up6 _ hli5
      have hLv6 := hLv5.up up6
      have hit6 := hit5.mono fun _ _ x => x.mono up6
      have hlt6 := hs6 _ hlt5
      have h1 := trees_one hLk.minus 12 row hwf
      have htz := hts5.length
      clear F9 N9 hs6 up6 hG5 hc5 hd5 hli5 hlr5 hLv5 hrow5 hit5 hlt5 hts5
      have ms : MarkMake := trivial
      k_steps
      unfold Stop
      rename News _ _ _ _ => N9
      rename Fr _ _ _ _ => F9
      refine told_cut lt nt ts dv (parse ptAlg lv row) s1 F9 ?_ ?_
      rotate_left
      · intro s9 hM9
        apply ToldMid.use hM9
        intro h9 tk9 tv led9 F10 N10 hlt9 hdv9 htv9
        clear F9 N9
        have hts1 : ts.size ≤ 1 := by rw [Array.length_toList] at htz; exact Nat.le_trans (Nat.le_of_eq htz) h1
        refine ex_opt (parse ptAlg lv row) (fun hq => ?_) fun q hq => ?_
        · rw [hq] at hdv9 htv9
          dsimp only [NodeIs] at hdv9 htv9
          subst hdv9
          subst htv9
          k_steps
        · rw [hq] at hdv9 htv9
          have hqd := parse_depth hLk.minus hwf hlen hq
          revert F10
          apply PtIn.useRef hdv9
          apply PtIn.useRef htv9
          clear hdv9 htv9
          intro x2 htv9 x1 hdv9 F10
          have ms : MarkMake := trivial
          k_steps
          unfold Stop
          rename News _ _ _ _ => N8
          refine pt_eq N8 ?_ htv9 hdv9 ?_
          · first | units_room | ktr_units | (simp only [Around.deeper_units]; omega) | skip
          k_steps
      k_steps
      unfold Stop
      rename News _ _ _ _ => N9
      rename Fr _ _ _ _ => F9
      refine comp_evalS F9 (by rfl) (by decide) (by rfl) (by decide) (by rfl) (by rfl) ?_
      k_steps
      unfold Stop
      rename News _ _ _ _ => N8
      rename Fr _ _ _ _ => F8
      refine ex1_3 (led_top N8) fun R7 N7 hl7 up7 => ?_
      have hc7 := up7 _ hc6
      have hd7 := up7 _ hd6
      have hli7 := up7 _ hli6
      have hlt7 := up7 _ hlt6
      have hLv7 := hLv6.up up7
      have hit7 := hit6.mono fun _ _ x => x.mono up7
      have hdv7 : NodeIs R7 dv (parse ptAlg lv row) := by
        revert hdv
        cases parse ptAlg lv row with
        | none => exact id
        | some q => exact fun h => PtIn.up h up7
      clear N8 hc6 hd6 hli6 hlt6 hLv6 hit6 hdv up7
      refine ⟨_, #[_, _, _], _, _, _, CpJ w R7 lv, rfl, F8, N7, hl7, ⟨[], rfl, fun p hp => (nomatch hp), .nil⟩, ?_, ?_, ?_, ?_⟩
      · intro i ys nw h9
        apply CpJ.use h9
        intro New _ _
        exact List.mem_append.mpr (.inr hl7)
      · intro i ys nw h9
        apply CpJ.use h9
        intro New hA hall
        have := hall.length
        rw [sizeLine_eq]
        simp only [Array.length_toList, List.length_take, List.length_cons, List.length_nil] at this
        omega
      · intro C D I oC oI k9 i v ys nw h tk mC E' hv hJ hneC hCD hCI hDI F2 N2 hNs hmx
        clear F8 N7
        refine wpAny_tests_nil ?_
        rw [if_pos rfl]
        revert hmx
        revert hneC N2 F2
        apply CpJ.use hJ
        apply cp_use hv
        clear hv hJ
        intro o t ho New hA hall hneC F2 N2 hmx
        have up8 : ∀ p ∈ R7, p ∈ New ++ R7 := fun p hp => List.mem_append.mpr (.inr hp)
        have hc8 := up8 _ hc7
        have hd8 := up8 _ hd7
        have hLv8 := hLv7.up up8
        have mc131 : MarkC 131 := trivial
        k_steps
        unfold Stop
        rename News _ _ _ _ => N9
        rename Fr _ _ _ _ => F9
        refine Calls.use (mk_fx w _ (lv o) _ _) (by k_asm) F9 (by k_asm) N9 (by k_asm) ?_ ?_ ?_ ?_
        · exact rfl
        · ktr_room
        · ktr_units
        clear F9 N9
        intro r9 l9 h9 tk9 F9 N9 P9
        revert N9
        apply opPost P9
        intro af New2 hA2 hf N9
        k_steps
        exact cp_push (by assumption) (by assumption) hneC hA hA2 (by assumption) hall ho hf
      · intro D ys k9 nw h tk hJ F2 N2 hneD hltD
        clear F8 N7
        revert N2 hneD
        apply CpJ.use hJ
        intro New hA hall N2 hneD
        refine ex1_3 (cp_dict hall) fun ps hps hK hsz => ?_
        have ms : MarkMake := trivial
        k_steps
        unfold Stop
        refine dict_pairs (by exact F2) (by exact N2) (modules_low (Top.nolimit (by k_asm))) (by rfl) (.head _) (hps.mono fun _ _ x => let ⟨a, t, e1, e2⟩ := x; ⟨a, t, e1, .tail _ e2⟩) hsz fun dk odk h8 tk8 F8 N8 hl8 hlo8 hD8 => ?_
        have up8 : ∀ p ∈ New ++ R7, p ∈ (dk, odk) :: (D, listOf ys k9) :: (New ++ R7) := fun p hp => .tail _ (.tail _ hp)
        have up9 : ∀ p ∈ R7, p ∈ (dk, odk) :: (D, listOf ys k9) :: (New ++ R7) := fun p hp => up8 _ (List.mem_append.mpr (.inr hp))
        clear F2 N2
        have mc384 : MarkC 384 := trivial
        k_steps
        unfold Stop
        rename News _ _ _ _ => N9
        rename Fr _ _ _ _ => F9
        refine CallsE.use (resolved_ok w lv _ dk li odk (storedAll [] ps) items k' row (up9 _ hli7) (hit7.mono fun _ _ x => x.mono up9) hwf hlen (.head _) hD8 (fun o => ⟨fun h => (hK o).1 h |>.imp fun _ x => ⟨x.1, x.2.mono up8⟩, (hK o).2⟩) hLk hlo8) (by k_asm) F9 (by k_asm) N9 (by k_asm) ?_ ?_ ?_ ?_ ?_
        · exact rfl
        · ktr_room
        · ktr_units
        · clear F9 N9
          intro r9 led9 h9 tk9 F9 N9 P9
          refine ex1_3 P9 fun q hq hs9 hn9 => ?_
          clear P9
          rw [hq] at hdv7 ⊢
          have up10 : ∀ p ∈ R7, p ∈ led9 := fun p hp => hs9 _ (up9 _ hp)
          have hlt9 := up10 _ hlt7
          have hdv9 := hdv7.up up10
          have hqd := parse_depth hLk.minus hwf hlen hq
          have C9 := rowm_ok w q led9 led9 r9 (fun _ h => h) hn9
          clear hq up8 up9 hs9 hlt7 hdv7 hc7 hd7 hli7 hLv7 hit7
          have mc1 : MarkC 304 := trivial
          have mc2 : MarkC 331 := trivial
          have mc3 : MarkC 358 := trivial
          cases hn9
          all_goals simp only [rowRef, dp1, dp2, dp3] at C9 hqd
          all_goals k_steps
          all_goals unfold Stop
          all_goals dsimp only [List.append_nil, List.cons_append, List.nil_append]
          all_goals rename News _ _ _ _ => N9
          all_goals rename Fr _ _ _ _ => F9
          all_goals
            refine Calls.use C9 (by k_asm) F9 (by k_asm) N9 (by k_asm) ?_ ?_ ?_ ?_
            · exact rfl
            · first | exact d13 hqd | ktr_room
            · first | exact v13 hqd | ktr_units
            · clear F9 N9
              intro r9 l9 h9 tk9 F9 N9 P9
              revert N9
              apply RowMPost.use P9
              intro New9 hA9 hP9 N9
              have up11 : ∀ p ∈ led9, p ∈ New9 ++ led9 := fun p hp => List.mem_append.mpr (.inr hp)
              k_steps
              all_goals first
                | exact ⟨_, _, _, _, rfl, (by assumption), (by assumption), up11 _ hlt9, hdv9.up up11, hP9⟩
                | trivial
        · clear F9 N9
          intro e9 g9 h9 tk9 F9 U9 RR9 hq
          rw [hq] at hdv7 ⊢
          refine caught_own (by k_asm) F9 U9 RR9 (by k_asm) (by k_asm) (fun h' F' N' => ?_)
          k_steps
          all_goals first
            | exact ⟨_, _, _, _, rfl, (by assumption), (by assumption), up9 _ hlt7, hdv7.up up9, rfl⟩
            | trivial
end Mine
theorem PySem.Challenge.cw_og0006_01_holds : PySem.Challenge.rw_og0006_01.Holds :=
  Mine.law_t
