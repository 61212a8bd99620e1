import PyProof.Rows.All
import Wide.All
import OpenK.AllK
import Wide.FinOn
import PySem.Challenge.RW_no0229_01
set_option Elab.async false
set_option maxRecDepth 100000
open PySem PySem.W PySem.Spec PySem.Calls PyProof.Rows

namespace Mine
section
/-- the objects as a tree, in the library's shape -/
noncomputable def cutBt (l : List Obj) : BT := (l.foldl (fun (x : BT × Nat) o => (x.1.ins x.2 o, x.2 + 1)) (.nil, 0)).1
abbrev cutProg : Program := PySem.Challenge.rw_no0229_01.row.prog
abbrev cutBody : List Stmt := behindTheImports cutProg
abbrev cutEnv : Env := { scope := cutProg.main.scope, locals := mainNs, globals := mainNs, cells := [], code := .ref 13, frame := some 14 }
abbrev cutCode : Code := .body cutBody cutEnv
abbrev cutPos : Pos := { line := 0, col := 0, endLine := 0, endCol := 0 }
/-- the def of the i-th statement of the text, or the first of the class that stands there -/
noncomputable def cutS (i : Nat) : Stmt := match cutProg.main.body[i]? with
  | some (.ClassDef _ _ _ (f :: _) _ _ _ _ _ _ _) => f
  | some s => s
  | none => .Pass cutPos
noncomputable def cutA (i : Nat) : Arguments := match cutS i with
  | .FunctionDef _ a _ _ _ _ _ _ _ _ => a
  | _ => default
noncomputable def cutB (i : Nat) : FuncBody := match cutS i with
  | .FunctionDef _ _ b _ _ _ _ _ _ _ => .stmts b
  | _ => default
noncomputable def cutC (i : Nat) : Scope := match cutS i with
  | .FunctionDef _ _ _ _ _ _ c _ _ _ => c
  | _ => default
/-- the loader's stand-in, as the start-up has it -/
noncomputable def cutLd (P : Params) : Value := match (boot_o_3 P).data with
  | .dict es _ => ((es[3]?).map (·.val)).getD .none
  | _ => .none
/- What lies in memory at four places of the top's run (before its first statement, behind each of the two classes, at its end). A small program of this repo wrote them (wip/Cuts.lean). -/
noncomputable def cutOa (P : Params) : List Obj := [
  boot_o_0 P,
  boot_o_1 P,
  boot_o_2 P,
  boot_o_3 P,
  boot_o_4 P,
  boot_o_5 P,
  boot_o_6 P,
  boot_o_7 P,
  boot_o_8 P,
  boot_o_9 P,
  boot_o_10 P,
  { cls := Value.type "tuple", data := Data.seq #[] },
  { cls := Value.none, data := Data.fields #[] },
  { cls := Value.type "code", data := Data.fields #[Value.str (Str.ofString "<module>") 182, Value.str (Str.ofString "<module>") 183, Value.str (Str.ofString "/claim/cut.py") 184, Value.int 1 0, Value.int 0 0, Value.int 0 0, Value.int 0 0, Value.int 0 0, Value.ref 11, Value.bool false, Value.int 181 0, Value.ref 12, Value.none, Value.none, Value.none, Value.none, Value.int 185 0, Value.int 1 0, Value.str (Str.ofString "/claim/cut.py") 186] },
  { cls := Value.type "frame", slots := #[some (Value.ref 13), some (Value.ref 3), some (Value.ref 3), none, some (Value.str (Str.ofString "__main__") 164), none, some (Value.ref 0)] }]
noncomputable def cutO1 (P : Params) : List Obj := [
  boot_o_0 P,
  boot_o_1 P,
  { cls := Value.none, data := Data.dict #[{ hash := PyData.keyHash P (Str.ofString "type.__subclasses__.Exception.0"), key := Value.str (Str.ofString "type.__subclasses__.Exception.0") 214, val := Value.int 31 0 }, { hash := PyData.keyHash P (Str.ofString "type.__subclasses__.Exception.n"), key := Value.str (Str.ofString "type.__subclasses__.Exception.n") 215, val := Value.int 1 0 }] 2 },
  { cls := Value.type "dict", data := Data.dict #[{ hash := PyData.keyHash P (Str.ofString "__name__"), key := Value.str (Str.ofString "__name__") 165, val := Value.str (Str.ofString "f77.errors") 187 }, { hash := PyData.keyHash P (Str.ofString "__doc__"), key := Value.str (Str.ofString "__doc__") 166, val := Value.none }, { hash := PyData.keyHash P (Str.ofString "__package__"), key := Value.str (Str.ofString "__package__") 167, val := Value.none }, { hash := PyData.keyHash P (Str.ofString "__loader__"), key := Value.str (Str.ofString "__loader__") 168, val := cutLd P }, { hash := PyData.keyHash P (Str.ofString "__spec__"), key := Value.str (Str.ofString "__spec__") 169, val := Value.none }, { hash := PyData.keyHash P (Str.ofString "__annotations__"), key := Value.str (Str.ofString "__annotations__") 170, val := Value.ref 6 }, { hash := PyData.keyHash P (Str.ofString "__builtins__"), key := Value.str (Str.ofString "__builtins__") 171, val := Value.ref 4 }, { hash := PyData.keyHash P (Str.ofString "__file__"), key := Value.str (Str.ofString "__file__") 173, val := Value.str (Str.ofString "/claim/cut.py") 172 }, { hash := PyData.keyHash P (Str.ofString "__cached__"), key := Value.str (Str.ofString "__cached__") 174, val := Value.none }, { hash := PyData.keyHash P (Str.ofString "F77Error"), key := Value.str (Str.ofString "F77Error") 217, val := Value.ref 31 }] 10 },
  boot_o_4 P,
  boot_o_5 P,
  boot_o_6 P,
  boot_o_7 P,
  boot_o_8 P,
  boot_o_9 P,
  boot_o_10 P,
  { cls := Value.type "tuple", data := Data.seq #[] },
  { cls := Value.none, data := Data.fields #[Value.int 2 0, Value.int 0 0, Value.ref 20] },
  { cls := Value.type "code", data := Data.fields #[Value.str (Str.ofString "<module>") 182, Value.str (Str.ofString "<module>") 183, Value.str (Str.ofString "/claim/cut.py") 184, Value.int 1 0, Value.int 0 0, Value.int 0 0, Value.int 0 0, Value.int 0 0, Value.ref 11, Value.bool false, Value.int 181 0, Value.ref 12, Value.none, Value.none, Value.none, Value.none, Value.int 185 0, Value.int 1 0, Value.str (Str.ofString "/claim/cut.py") 186] },
  { cls := Value.type "frame", slots := #[some (Value.ref 13), some (Value.ref 3), some (Value.ref 3), none, some (Value.str (Str.ofString "__main__") 164), none, some (Value.ref 0)] },
  { cls := Value.type "tuple", data := Data.seq #[Value.type "Exception"] },
  { cls := Value.type "builtin_function_or_method", data := Data.fields #[Value.builtin "type.__prepare__", Value.type "type"] },
  { cls := Value.type "dict", data := Data.dict #[{ hash := PyData.keyHash P (Str.ofString "__module__"), key := Value.str (Str.ofString "__module__") 196, val := Value.str (Str.ofString "f77.errors") 187 }, { hash := PyData.keyHash P (Str.ofString "__qualname__"), key := Value.str (Str.ofString "__qualname__") 198, val := Value.str (Str.ofString "F77Error") 197 }, { hash := PyData.keyHash P (Str.ofString "__firstlineno__"), key := Value.str (Str.ofString "__firstlineno__") 200, val := Value.int 2 199 }, { hash := PyData.keyHash P (Str.ofString "__init__"), key := Value.str (Str.ofString "__init__") 208, val := Value.ref 28 }, { hash := PyData.keyHash P (Str.ofString "__static_attributes__"), key := Value.str (Str.ofString "__static_attributes__") 210, val := Value.ref 29 }] 5 },
  { cls := Value.type "tuple", data := Data.seq #[] },
  { cls := Value.none, data := Data.fields #[Value.int 4 0, Value.int 4 0, Value.ref 27] },
  { cls := Value.type "code", data := Data.fields #[Value.str (Str.ofString "F77Error") 191, Value.str (Str.ofString "F77Error") 192, Value.str (Str.ofString "/claim/cut.py") 193, Value.int 2 0, Value.int 0 0, Value.int 0 0, Value.int 0 0, Value.int 0 0, Value.ref 18, Value.bool false, Value.int 181 0, Value.ref 19, Value.none, Value.none, Value.none, Value.none, Value.int 194 0, Value.int 2 0, Value.str (Str.ofString "/claim/cut.py") 195] },
  { cls := Value.type "frame", slots := #[some (Value.ref 20), some (Value.ref 3), some (Value.ref 17), none, some (Value.str (Str.ofString "f77.errors") 187), none, some (Value.ref 0)] },
  { cls := Value.type "tuple", data := Data.seq #[] },
  { cls := Value.none, data := Data.fields #[] },
  { cls := Value.type "tuple", data := Data.seq #[Value.str (Str.ofString "self") 204, Value.str (Str.ofString "text") 205] },
  { cls := Value.type "tuple", data := Data.seq #[] },
  { cls := Value.none, data := Data.func { name := Str.ofString "__init__", qualname := Str.ofString "F77Error.__init__", params := cutA 1, body := cutB 1, scope := cutC 1, globals := 0, closure := [], defaults := Value.none, kwdefaults := Value.none } },
  { cls := Value.type "code", data := Data.fields #[Value.str (Str.ofString "__init__") 201, Value.str (Str.ofString "F77Error.__init__") 202, Value.str (Str.ofString "/claim/cut.py") 203, Value.int 4 0, Value.int 2 0, Value.int 0 0, Value.int 0 0, Value.int 3 0, Value.ref 22, Value.bool true, Value.int 181 0, Value.ref 23, Value.none, Value.ref 24, Value.ref 25, Value.ref 26, Value.int 206 0, Value.int 4 0, Value.str (Str.ofString "/claim/cut.py") 207] },
  { cls := Value.type "function", data := Data.func { name := Str.ofString "__init__", qualname := Str.ofString "F77Error.__init__", params := cutA 1, body := cutB 1, scope := cutC 1, globals := 3, closure := [], defaults := Value.none, kwdefaults := Value.none, pyModule := Value.str (Str.ofString "f77.errors") 187, code := Value.ref 27 } },
  { cls := Value.type "tuple", data := Data.seq #[Value.str (Str.ofString "text") 209] },
  { cls := Value.type "dict", data := Data.dict #[{ hash := PyData.keyHash P (Str.ofString "__module__"), key := Value.str (Str.ofString "__module__") 196, val := Value.str (Str.ofString "f77.errors") 187 }, { hash := PyData.keyHash P (Str.ofString "__firstlineno__"), key := Value.str (Str.ofString "__firstlineno__") 200, val := Value.int 2 199 }, { hash := PyData.keyHash P (Str.ofString "__init__"), key := Value.str (Str.ofString "__init__") 208, val := Value.ref 28 }, { hash := PyData.keyHash P (Str.ofString "__static_attributes__"), key := Value.str (Str.ofString "__static_attributes__") 210, val := Value.ref 29 }, { hash := PyData.keyHash P (Str.ofString "__weakref__"), key := Value.str (Str.ofString "__weakref__") 212, val := Value.ref 32 }, { hash := PyData.keyHash P (Str.ofString "__doc__"), key := Value.str (Str.ofString "__doc__") 213, val := Value.none }] 3 },
  { cls := Value.type "type", data := Data.cls { name := Str.ofString "F77Error", bases := [Value.type "Exception"], mro := [Value.ref 31, Value.type "Exception", Value.type "BaseException", Value.type "object"], ns := 30, qualname := Str.ofString "F77Error" }, slots := #[some (Value.ref 15), none, some (Value.str (Str.ofString "F77Error") 189), some (Value.str (Str.ofString "F77Error") 197), some (Value.builtin "Exception.__new__"), some (Value.bool true)] },
  { cls := Value.type "getset_descriptor", data := Data.fields #[Value.str (Str.ofString "__weakref__") 211, Value.ref 31, Value.builtin "ExceptionGroup.__weakref__", Value.none] },
  { cls := Value.type "super", data := Data.fields #[Value.ref 31, Value.ref 31, Value.ref 31] },
  { cls := Value.type "builtin_function_or_method", data := Data.fields #[Value.builtin "object.__init_subclass__", Value.ref 31] }]
noncomputable def cutO2 (P : Params) : List Obj := [
  boot_o_0 P,
  boot_o_1 P,
  { cls := Value.none, data := Data.dict #[{ hash := PyData.keyHash P (Str.ofString "type.__subclasses__.Exception.0"), key := Value.str (Str.ofString "type.__subclasses__.Exception.0") 214, val := Value.int 31 0 }, { hash := PyData.keyHash P (Str.ofString "type.__subclasses__.Exception.n"), key := Value.str (Str.ofString "type.__subclasses__.Exception.n") 215, val := Value.int 1 0 }] 2 },
  { cls := Value.type "dict", data := Data.dict #[{ hash := PyData.keyHash P (Str.ofString "__name__"), key := Value.str (Str.ofString "__name__") 165, val := Value.str (Str.ofString "f77.errors") 187 }, { hash := PyData.keyHash P (Str.ofString "__doc__"), key := Value.str (Str.ofString "__doc__") 166, val := Value.none }, { hash := PyData.keyHash P (Str.ofString "__package__"), key := Value.str (Str.ofString "__package__") 167, val := Value.none }, { hash := PyData.keyHash P (Str.ofString "__loader__"), key := Value.str (Str.ofString "__loader__") 168, val := cutLd P }, { hash := PyData.keyHash P (Str.ofString "__spec__"), key := Value.str (Str.ofString "__spec__") 169, val := Value.none }, { hash := PyData.keyHash P (Str.ofString "__annotations__"), key := Value.str (Str.ofString "__annotations__") 170, val := Value.ref 6 }, { hash := PyData.keyHash P (Str.ofString "__builtins__"), key := Value.str (Str.ofString "__builtins__") 171, val := Value.ref 4 }, { hash := PyData.keyHash P (Str.ofString "__file__"), key := Value.str (Str.ofString "__file__") 173, val := Value.str (Str.ofString "/claim/cut.py") 172 }, { hash := PyData.keyHash P (Str.ofString "__cached__"), key := Value.str (Str.ofString "__cached__") 174, val := Value.none }, { hash := PyData.keyHash P (Str.ofString "F77Error"), key := Value.str (Str.ofString "F77Error") 217, val := Value.ref 31 }, { hash := PyData.keyHash P (Str.ofString "RunFault"), key := Value.str (Str.ofString "RunFault") 233, val := Value.ref 44 }] 11 },
  boot_o_4 P,
  boot_o_5 P,
  boot_o_6 P,
  boot_o_7 P,
  boot_o_8 P,
  boot_o_9 P,
  boot_o_10 P,
  { cls := Value.type "tuple", data := Data.seq #[] },
  { cls := Value.none, data := Data.fields #[Value.int 2 0, Value.int 0 0, Value.ref 20, Value.int 7 0, Value.int 0 0, Value.ref 40] },
  { cls := Value.type "code", data := Data.fields #[Value.str (Str.ofString "<module>") 182, Value.str (Str.ofString "<module>") 183, Value.str (Str.ofString "/claim/cut.py") 184, Value.int 1 0, Value.int 0 0, Value.int 0 0, Value.int 0 0, Value.int 0 0, Value.ref 11, Value.bool false, Value.int 181 0, Value.ref 12, Value.none, Value.none, Value.none, Value.none, Value.int 185 0, Value.int 1 0, Value.str (Str.ofString "/claim/cut.py") 186] },
  { cls := Value.type "frame", slots := #[some (Value.ref 13), some (Value.ref 3), some (Value.ref 3), none, some (Value.str (Str.ofString "__main__") 164), none, some (Value.ref 0)] },
  { cls := Value.type "tuple", data := Data.seq #[Value.type "Exception"] },
  { cls := Value.type "builtin_function_or_method", data := Data.fields #[Value.builtin "type.__prepare__", Value.type "type"] },
  { cls := Value.type "dict", data := Data.dict #[{ hash := PyData.keyHash P (Str.ofString "__module__"), key := Value.str (Str.ofString "__module__") 196, val := Value.str (Str.ofString "f77.errors") 187 }, { hash := PyData.keyHash P (Str.ofString "__qualname__"), key := Value.str (Str.ofString "__qualname__") 198, val := Value.str (Str.ofString "F77Error") 197 }, { hash := PyData.keyHash P (Str.ofString "__firstlineno__"), key := Value.str (Str.ofString "__firstlineno__") 200, val := Value.int 2 199 }, { hash := PyData.keyHash P (Str.ofString "__init__"), key := Value.str (Str.ofString "__init__") 208, val := Value.ref 28 }, { hash := PyData.keyHash P (Str.ofString "__static_attributes__"), key := Value.str (Str.ofString "__static_attributes__") 210, val := Value.ref 29 }] 5 },
  { cls := Value.type "tuple", data := Data.seq #[] },
  { cls := Value.none, data := Data.fields #[Value.int 4 0, Value.int 4 0, Value.ref 27] },
  { cls := Value.type "code", data := Data.fields #[Value.str (Str.ofString "F77Error") 191, Value.str (Str.ofString "F77Error") 192, Value.str (Str.ofString "/claim/cut.py") 193, Value.int 2 0, Value.int 0 0, Value.int 0 0, Value.int 0 0, Value.int 0 0, Value.ref 18, Value.bool false, Value.int 181 0, Value.ref 19, Value.none, Value.none, Value.none, Value.none, Value.int 194 0, Value.int 2 0, Value.str (Str.ofString "/claim/cut.py") 195] },
  { cls := Value.type "frame", slots := #[some (Value.ref 20), some (Value.ref 3), some (Value.ref 17), none, some (Value.str (Str.ofString "f77.errors") 187), none, some (Value.ref 0)] },
  { cls := Value.type "tuple", data := Data.seq #[] },
  { cls := Value.none, data := Data.fields #[] },
  { cls := Value.type "tuple", data := Data.seq #[Value.str (Str.ofString "self") 204, Value.str (Str.ofString "text") 205] },
  { cls := Value.type "tuple", data := Data.seq #[] },
  { cls := Value.none, data := Data.func { name := Str.ofString "__init__", qualname := Str.ofString "F77Error.__init__", params := cutA 1, body := cutB 1, scope := cutC 1, globals := 0, closure := [], defaults := Value.none, kwdefaults := Value.none } },
  { cls := Value.type "code", data := Data.fields #[Value.str (Str.ofString "__init__") 201, Value.str (Str.ofString "F77Error.__init__") 202, Value.str (Str.ofString "/claim/cut.py") 203, Value.int 4 0, Value.int 2 0, Value.int 0 0, Value.int 0 0, Value.int 3 0, Value.ref 22, Value.bool true, Value.int 181 0, Value.ref 23, Value.none, Value.ref 24, Value.ref 25, Value.ref 26, Value.int 206 0, Value.int 4 0, Value.str (Str.ofString "/claim/cut.py") 207] },
  { cls := Value.type "function", data := Data.func { name := Str.ofString "__init__", qualname := Str.ofString "F77Error.__init__", params := cutA 1, body := cutB 1, scope := cutC 1, globals := 3, closure := [], defaults := Value.none, kwdefaults := Value.none, pyModule := Value.str (Str.ofString "f77.errors") 187, code := Value.ref 27 } },
  { cls := Value.type "tuple", data := Data.seq #[Value.str (Str.ofString "text") 209] },
  { cls := Value.type "dict", data := Data.dict #[{ hash := PyData.keyHash P (Str.ofString "__module__"), key := Value.str (Str.ofString "__module__") 196, val := Value.str (Str.ofString "f77.errors") 187 }, { hash := PyData.keyHash P (Str.ofString "__firstlineno__"), key := Value.str (Str.ofString "__firstlineno__") 200, val := Value.int 2 199 }, { hash := PyData.keyHash P (Str.ofString "__init__"), key := Value.str (Str.ofString "__init__") 208, val := Value.ref 28 }, { hash := PyData.keyHash P (Str.ofString "__static_attributes__"), key := Value.str (Str.ofString "__static_attributes__") 210, val := Value.ref 29 }, { hash := PyData.keyHash P (Str.ofString "__weakref__"), key := Value.str (Str.ofString "__weakref__") 212, val := Value.ref 32 }, { hash := PyData.keyHash P (Str.ofString "__doc__"), key := Value.str (Str.ofString "__doc__") 213, val := Value.none }] 3 },
  { cls := Value.type "type", data := Data.cls { name := Str.ofString "F77Error", bases := [Value.type "Exception"], mro := [Value.ref 31, Value.type "Exception", Value.type "BaseException", Value.type "object"], ns := 30, qualname := Str.ofString "F77Error", subclasses := [Value.ref 44] }, slots := #[some (Value.ref 15), none, some (Value.str (Str.ofString "F77Error") 189), some (Value.str (Str.ofString "F77Error") 197), some (Value.builtin "Exception.__new__"), some (Value.bool true)] },
  { cls := Value.type "getset_descriptor", data := Data.fields #[Value.str (Str.ofString "__weakref__") 211, Value.ref 31, Value.builtin "ExceptionGroup.__weakref__", Value.none] },
  { cls := Value.type "super", data := Data.fields #[Value.ref 31, Value.ref 31, Value.ref 31] },
  { cls := Value.type "builtin_function_or_method", data := Data.fields #[Value.builtin "object.__init_subclass__", Value.ref 31] },
  { cls := Value.type "tuple", data := Data.seq #[Value.ref 31] },
  { cls := Value.type "builtin_function_or_method", data := Data.fields #[Value.builtin "type.__prepare__", Value.type "type"] },
  { cls := Value.type "dict", data := Data.dict #[{ hash := PyData.keyHash P (Str.ofString "__module__"), key := Value.str (Str.ofString "__module__") 225, val := Value.str (Str.ofString "f77.errors") 187 }, { hash := PyData.keyHash P (Str.ofString "__qualname__"), key := Value.str (Str.ofString "__qualname__") 227, val := Value.str (Str.ofString "RunFault") 226 }, { hash := PyData.keyHash P (Str.ofString "__firstlineno__"), key := Value.str (Str.ofString "__firstlineno__") 229, val := Value.int 7 228 }, { hash := PyData.keyHash P (Str.ofString "__static_attributes__"), key := Value.str (Str.ofString "__static_attributes__") 230, val := Value.ref 42 }] 4 },
  { cls := Value.type "tuple", data := Data.seq #[] },
  { cls := Value.none, data := Data.fields #[] },
  { cls := Value.type "code", data := Data.fields #[Value.str (Str.ofString "RunFault") 220, Value.str (Str.ofString "RunFault") 221, Value.str (Str.ofString "/claim/cut.py") 222, Value.int 7 0, Value.int 0 0, Value.int 0 0, Value.int 0 0, Value.int 0 0, Value.ref 38, Value.bool false, Value.int 181 0, Value.ref 39, Value.none, Value.none, Value.none, Value.none, Value.int 223 0, Value.int 7 0, Value.str (Str.ofString "/claim/cut.py") 224] },
  { cls := Value.type "frame", slots := #[some (Value.ref 40), some (Value.ref 3), some (Value.ref 37), none, some (Value.str (Str.ofString "f77.errors") 187), none, some (Value.ref 0)] },
  { cls := Value.type "tuple", data := Data.seq #[] },
  { cls := Value.type "dict", data := Data.dict #[{ hash := PyData.keyHash P (Str.ofString "__module__"), key := Value.str (Str.ofString "__module__") 225, val := Value.str (Str.ofString "f77.errors") 187 }, { hash := PyData.keyHash P (Str.ofString "__firstlineno__"), key := Value.str (Str.ofString "__firstlineno__") 229, val := Value.int 7 228 }, { hash := PyData.keyHash P (Str.ofString "__static_attributes__"), key := Value.str (Str.ofString "__static_attributes__") 230, val := Value.ref 42 }, { hash := PyData.keyHash P (Str.ofString "__doc__"), key := Value.str (Str.ofString "__doc__") 231, val := Value.none }] 2 },
  { cls := Value.type "type", data := Data.cls { name := Str.ofString "RunFault", bases := [Value.ref 31], mro := [Value.ref 44, Value.ref 31, Value.type "Exception", Value.type "BaseException", Value.type "object"], ns := 43, qualname := Str.ofString "RunFault" }, slots := #[some (Value.ref 35), none, some (Value.str (Str.ofString "RunFault") 218), some (Value.str (Str.ofString "RunFault") 226), some (Value.builtin "Exception.__new__"), some (Value.bool true)] },
  { cls := Value.type "super", data := Data.fields #[Value.ref 44, Value.ref 44, Value.ref 44] },
  { cls := Value.type "builtin_function_or_method", data := Data.fields #[Value.builtin "object.__init_subclass__", Value.ref 44] }]
noncomputable def cutO3 (P : Params) : List Obj := [
  boot_o_0 P,
  boot_o_1 P,
  { cls := Value.none, data := Data.dict #[{ hash := PyData.keyHash P (Str.ofString "type.__subclasses__.Exception.0"), key := Value.str (Str.ofString "type.__subclasses__.Exception.0") 214, val := Value.int 31 0 }, { hash := PyData.keyHash P (Str.ofString "type.__subclasses__.Exception.n"), key := Value.str (Str.ofString "type.__subclasses__.Exception.n") 215, val := Value.int 1 0 }] 2 },
  { cls := Value.type "dict", data := Data.dict #[{ hash := PyData.keyHash P (Str.ofString "__name__"), key := Value.str (Str.ofString "__name__") 165, val := Value.str (Str.ofString "law_no0229_01") 419 }, { hash := PyData.keyHash P (Str.ofString "__doc__"), key := Value.str (Str.ofString "__doc__") 166, val := Value.none }, { hash := PyData.keyHash P (Str.ofString "__package__"), key := Value.str (Str.ofString "__package__") 167, val := Value.none }, { hash := PyData.keyHash P (Str.ofString "__loader__"), key := Value.str (Str.ofString "__loader__") 168, val := cutLd P }, { hash := PyData.keyHash P (Str.ofString "__spec__"), key := Value.str (Str.ofString "__spec__") 169, val := Value.none }, { hash := PyData.keyHash P (Str.ofString "__annotations__"), key := Value.str (Str.ofString "__annotations__") 170, val := Value.ref 6 }, { hash := PyData.keyHash P (Str.ofString "__builtins__"), key := Value.str (Str.ofString "__builtins__") 171, val := Value.ref 4 }, { hash := PyData.keyHash P (Str.ofString "__file__"), key := Value.str (Str.ofString "__file__") 173, val := Value.str (Str.ofString "/claim/cut.py") 172 }, { hash := PyData.keyHash P (Str.ofString "__cached__"), key := Value.str (Str.ofString "__cached__") 174, val := Value.none }, { hash := PyData.keyHash P (Str.ofString "F77Error"), key := Value.str (Str.ofString "F77Error") 217, val := Value.ref 31 }, { hash := PyData.keyHash P (Str.ofString "RunFault"), key := Value.str (Str.ofString "RunFault") 233, val := Value.ref 44 }, { hash := PyData.keyHash P (Str.ofString "NOUGHT"), key := Value.str (Str.ofString "NOUGHT") 238, val := Value.ref 47 }, { hash := PyData.keyHash P (Str.ofString "GUARD"), key := Value.str (Str.ofString "GUARD") 240, val := Value.int 8 239 }, { hash := PyData.keyHash P (Str.ofString "EXACT_POWER"), key := Value.str (Str.ofString "EXACT_POWER") 242, val := Value.int 64 241 }, { hash := PyData.keyHash P (Str.ofString "count_digits"), key := Value.str (Str.ofString "count_digits") 250, val := Value.ref 54 }, { hash := PyData.keyHash P (Str.ofString "strip_zeros"), key := Value.str (Str.ofString "strip_zeros") 258, val := Value.ref 61 }, { hash := PyData.keyHash P (Str.ofString "round_digits"), key := Value.str (Str.ofString "round_digits") 271, val := Value.ref 68 }, { hash := PyData.keyHash P (Str.ofString "round_real"), key := Value.str (Str.ofString "round_real") 282, val := Value.ref 75 }, { hash := PyData.keyHash P (Str.ofString "exact_add"), key := Value.str (Str.ofString "exact_add") 291, val := Value.ref 82 }, { hash := PyData.keyHash P (Str.ofString "exact_mul"), key := Value.str (Str.ofString "exact_mul") 299, val := Value.ref 89 }, { hash := PyData.keyHash P (Str.ofString "real_neg"), key := Value.str (Str.ofString "real_neg") 306, val := Value.ref 96 }, { hash := PyData.keyHash P (Str.ofString "quotient"), key := Value.str (Str.ofString "quotient") 320, val := Value.ref 103 }, { hash := PyData.keyHash P (Str.ofString "real_add"), key := Value.str (Str.ofString "real_add") 332, val := Value.ref 110 }, { hash := PyData.keyHash P (Str.ofString "real_sub"), key := Value.str (Str.ofString "real_sub") 344, val := Value.ref 117 }, { hash := PyData.keyHash P (Str.ofString "real_mul"), key := Value.str (Str.ofString "real_mul") 356, val := Value.ref 124 }, { hash := PyData.keyHash P (Str.ofString "real_div"), key := Value.str (Str.ofString "real_div") 368, val := Value.ref 131 }, { hash := PyData.keyHash P (Str.ofString "real_compare"), key := Value.str (Str.ofString "real_compare") 377, val := Value.ref 138 }, { hash := PyData.keyHash P (Str.ofString "real_of_int"), key := Value.str (Str.ofString "real_of_int") 386, val := Value.ref 145 }, { hash := PyData.keyHash P (Str.ofString "real_to_int"), key := Value.str (Str.ofString "real_to_int") 396, val := Value.ref 152 }, { hash := PyData.keyHash P (Str.ofString "raised"), key := Value.str (Str.ofString "raised") 406, val := Value.ref 159 }, { hash := PyData.keyHash P (Str.ofString "real_power"), key := Value.str (Str.ofString "real_power") 418, val := Value.ref 166 }, { hash := PyData.keyHash P (Str.ofString "_law_pick"), key := Value.str (Str.ofString "_law_pick") 429, val := Value.ref 173 }, { hash := PyData.keyHash P (Str.ofString "_law_round"), key := Value.str (Str.ofString "_law_round") 447, val := Value.ref 181 }, { hash := PyData.keyHash P (Str.ofString "_law_fraction"), key := Value.str (Str.ofString "_law_fraction") 454, val := Value.ref 188 }, { hash := PyData.keyHash P (Str.ofString "_law_real"), key := Value.str (Str.ofString "_law_real") 468, val := Value.ref 195 }, { hash := PyData.keyHash P (Str.ofString "_law_heard"), key := Value.str (Str.ofString "_law_heard") 479, val := Value.ref 202 }, { hash := PyData.keyHash P (Str.ofString "_law_power_right"), key := Value.str (Str.ofString "_law_power_right") 497, val := Value.ref 209 }, { hash := PyData.keyHash P (Str.ofString "law"), key := Value.str (Str.ofString "law") 503, val := Value.ref 214 }] 38 },
  boot_o_4 P,
  boot_o_5 P,
  boot_o_6 P,
  boot_o_7 P,
  boot_o_8 P,
  boot_o_9 P,
  boot_o_10 P,
  { cls := Value.type "tuple", data := Data.seq #[] },
  { cls := Value.none, data := Data.fields #[Value.int 2 0, Value.int 0 0, Value.ref 20, Value.int 7 0, Value.int 0 0, Value.ref 40, Value.int 13 0, Value.int 0 0, Value.ref 53, Value.int 23 0, Value.int 0 0, Value.ref 60, Value.int 30 0, Value.int 0 0, Value.ref 67, Value.int 40 0, Value.int 0 0, Value.ref 74, Value.int 48 0, Value.int 0 0, Value.ref 81, Value.int 51 0, Value.int 0 0, Value.ref 88, Value.int 53 0, Value.int 0 0, Value.ref 95, Value.int 55 0, Value.int 0 0, Value.ref 102, Value.int 62 0, Value.int 0 0, Value.ref 109, Value.int 65 0, Value.int 0 0, Value.ref 116, Value.int 68 0, Value.int 0 0, Value.ref 123, Value.int 71 0, Value.int 0 0, Value.ref 130, Value.int 76 0, Value.int 0 0, Value.ref 137, Value.int 81 0, Value.int 0 0, Value.ref 144, Value.int 83 0, Value.int 0 0, Value.ref 151, Value.int 89 0, Value.int 0 0, Value.ref 158, Value.int 99 0, Value.int 0 0, Value.ref 165, Value.int 107 0, Value.int 0 0, Value.ref 172, Value.int 109 0, Value.int 0 0, Value.ref 180, Value.int 132 0, Value.int 0 0, Value.ref 187, Value.int 134 0, Value.int 0 0, Value.ref 194, Value.int 142 0, Value.int 0 0, Value.ref 201, Value.int 159 0, Value.int 0 0, Value.ref 208, Value.int 179 0, Value.int 0 0, Value.ref 213] },
  { cls := Value.type "code", data := Data.fields #[Value.str (Str.ofString "<module>") 182, Value.str (Str.ofString "<module>") 183, Value.str (Str.ofString "/claim/cut.py") 184, Value.int 1 0, Value.int 0 0, Value.int 0 0, Value.int 0 0, Value.int 0 0, Value.ref 11, Value.bool false, Value.int 181 0, Value.ref 12, Value.none, Value.none, Value.none, Value.none, Value.int 185 0, Value.int 1 0, Value.str (Str.ofString "/claim/cut.py") 186] },
  { cls := Value.type "frame", slots := #[some (Value.ref 13), some (Value.ref 3), some (Value.ref 3), none, some (Value.str (Str.ofString "__main__") 164), none, some (Value.ref 0)] },
  { cls := Value.type "tuple", data := Data.seq #[Value.type "Exception"] },
  { cls := Value.type "builtin_function_or_method", data := Data.fields #[Value.builtin "type.__prepare__", Value.type "type"] },
  { cls := Value.type "dict", data := Data.dict #[{ hash := PyData.keyHash P (Str.ofString "__module__"), key := Value.str (Str.ofString "__module__") 196, val := Value.str (Str.ofString "f77.errors") 187 }, { hash := PyData.keyHash P (Str.ofString "__qualname__"), key := Value.str (Str.ofString "__qualname__") 198, val := Value.str (Str.ofString "F77Error") 197 }, { hash := PyData.keyHash P (Str.ofString "__firstlineno__"), key := Value.str (Str.ofString "__firstlineno__") 200, val := Value.int 2 199 }, { hash := PyData.keyHash P (Str.ofString "__init__"), key := Value.str (Str.ofString "__init__") 208, val := Value.ref 28 }, { hash := PyData.keyHash P (Str.ofString "__static_attributes__"), key := Value.str (Str.ofString "__static_attributes__") 210, val := Value.ref 29 }] 5 },
  { cls := Value.type "tuple", data := Data.seq #[] },
  { cls := Value.none, data := Data.fields #[Value.int 4 0, Value.int 4 0, Value.ref 27] },
  { cls := Value.type "code", data := Data.fields #[Value.str (Str.ofString "F77Error") 191, Value.str (Str.ofString "F77Error") 192, Value.str (Str.ofString "/claim/cut.py") 193, Value.int 2 0, Value.int 0 0, Value.int 0 0, Value.int 0 0, Value.int 0 0, Value.ref 18, Value.bool false, Value.int 181 0, Value.ref 19, Value.none, Value.none, Value.none, Value.none, Value.int 194 0, Value.int 2 0, Value.str (Str.ofString "/claim/cut.py") 195] },
  { cls := Value.type "frame", slots := #[some (Value.ref 20), some (Value.ref 3), some (Value.ref 17), none, some (Value.str (Str.ofString "f77.errors") 187), none, some (Value.ref 0)] },
  { cls := Value.type "tuple", data := Data.seq #[] },
  { cls := Value.none, data := Data.fields #[] },
  { cls := Value.type "tuple", data := Data.seq #[Value.str (Str.ofString "self") 204, Value.str (Str.ofString "text") 205] },
  { cls := Value.type "tuple", data := Data.seq #[] },
  { cls := Value.none, data := Data.func { name := Str.ofString "__init__", qualname := Str.ofString "F77Error.__init__", params := cutA 1, body := cutB 1, scope := cutC 1, globals := 0, closure := [], defaults := Value.none, kwdefaults := Value.none } },
  { cls := Value.type "code", data := Data.fields #[Value.str (Str.ofString "__init__") 201, Value.str (Str.ofString "F77Error.__init__") 202, Value.str (Str.ofString "/claim/cut.py") 203, Value.int 4 0, Value.int 2 0, Value.int 0 0, Value.int 0 0, Value.int 3 0, Value.ref 22, Value.bool true, Value.int 181 0, Value.ref 23, Value.none, Value.ref 24, Value.ref 25, Value.ref 26, Value.int 206 0, Value.int 4 0, Value.str (Str.ofString "/claim/cut.py") 207] },
  { cls := Value.type "function", data := Data.func { name := Str.ofString "__init__", qualname := Str.ofString "F77Error.__init__", params := cutA 1, body := cutB 1, scope := cutC 1, globals := 3, closure := [], defaults := Value.none, kwdefaults := Value.none, pyModule := Value.str (Str.ofString "f77.errors") 187, code := Value.ref 27 } },
  { cls := Value.type "tuple", data := Data.seq #[Value.str (Str.ofString "text") 209] },
  { cls := Value.type "dict", data := Data.dict #[{ hash := PyData.keyHash P (Str.ofString "__module__"), key := Value.str (Str.ofString "__module__") 196, val := Value.str (Str.ofString "f77.errors") 187 }, { hash := PyData.keyHash P (Str.ofString "__firstlineno__"), key := Value.str (Str.ofString "__firstlineno__") 200, val := Value.int 2 199 }, { hash := PyData.keyHash P (Str.ofString "__init__"), key := Value.str (Str.ofString "__init__") 208, val := Value.ref 28 }, { hash := PyData.keyHash P (Str.ofString "__static_attributes__"), key := Value.str (Str.ofString "__static_attributes__") 210, val := Value.ref 29 }, { hash := PyData.keyHash P (Str.ofString "__weakref__"), key := Value.str (Str.ofString "__weakref__") 212, val := Value.ref 32 }, { hash := PyData.keyHash P (Str.ofString "__doc__"), key := Value.str (Str.ofString "__doc__") 213, val := Value.none }] 3 },
  { cls := Value.type "type", data := Data.cls { name := Str.ofString "F77Error", bases := [Value.type "Exception"], mro := [Value.ref 31, Value.type "Exception", Value.type "BaseException", Value.type "object"], ns := 30, qualname := Str.ofString "F77Error", subclasses := [Value.ref 44] }, slots := #[some (Value.ref 15), none, some (Value.str (Str.ofString "F77Error") 189), some (Value.str (Str.ofString "F77Error") 197), some (Value.builtin "Exception.__new__"), some (Value.bool true)] },
  { cls := Value.type "getset_descriptor", data := Data.fields #[Value.str (Str.ofString "__weakref__") 211, Value.ref 31, Value.builtin "ExceptionGroup.__weakref__", Value.none] },
  { cls := Value.type "super", data := Data.fields #[Value.ref 31, Value.ref 31, Value.ref 31] },
  { cls := Value.type "builtin_function_or_method", data := Data.fields #[Value.builtin "object.__init_subclass__", Value.ref 31] },
  { cls := Value.type "tuple", data := Data.seq #[Value.ref 31] },
  { cls := Value.type "builtin_function_or_method", data := Data.fields #[Value.builtin "type.__prepare__", Value.type "type"] },
  { cls := Value.type "dict", data := Data.dict #[{ hash := PyData.keyHash P (Str.ofString "__module__"), key := Value.str (Str.ofString "__module__") 225, val := Value.str (Str.ofString "f77.errors") 187 }, { hash := PyData.keyHash P (Str.ofString "__qualname__"), key := Value.str (Str.ofString "__qualname__") 227, val := Value.str (Str.ofString "RunFault") 226 }, { hash := PyData.keyHash P (Str.ofString "__firstlineno__"), key := Value.str (Str.ofString "__firstlineno__") 229, val := Value.int 7 228 }, { hash := PyData.keyHash P (Str.ofString "__static_attributes__"), key := Value.str (Str.ofString "__static_attributes__") 230, val := Value.ref 42 }] 4 },
  { cls := Value.type "tuple", data := Data.seq #[] },
  { cls := Value.none, data := Data.fields #[] },
  { cls := Value.type "code", data := Data.fields #[Value.str (Str.ofString "RunFault") 220, Value.str (Str.ofString "RunFault") 221, Value.str (Str.ofString "/claim/cut.py") 222, Value.int 7 0, Value.int 0 0, Value.int 0 0, Value.int 0 0, Value.int 0 0, Value.ref 38, Value.bool false, Value.int 181 0, Value.ref 39, Value.none, Value.none, Value.none, Value.none, Value.int 223 0, Value.int 7 0, Value.str (Str.ofString "/claim/cut.py") 224] },
  { cls := Value.type "frame", slots := #[some (Value.ref 40), some (Value.ref 3), some (Value.ref 37), none, some (Value.str (Str.ofString "f77.errors") 187), none, some (Value.ref 0)] },
  { cls := Value.type "tuple", data := Data.seq #[] },
  { cls := Value.type "dict", data := Data.dict #[{ hash := PyData.keyHash P (Str.ofString "__module__"), key := Value.str (Str.ofString "__module__") 225, val := Value.str (Str.ofString "f77.errors") 187 }, { hash := PyData.keyHash P (Str.ofString "__firstlineno__"), key := Value.str (Str.ofString "__firstlineno__") 229, val := Value.int 7 228 }, { hash := PyData.keyHash P (Str.ofString "__static_attributes__"), key := Value.str (Str.ofString "__static_attributes__") 230, val := Value.ref 42 }, { hash := PyData.keyHash P (Str.ofString "__doc__"), key := Value.str (Str.ofString "__doc__") 231, val := Value.none }] 2 },
  { cls := Value.type "type", data := Data.cls { name := Str.ofString "RunFault", bases := [Value.ref 31], mro := [Value.ref 44, Value.ref 31, Value.type "Exception", Value.type "BaseException", Value.type "object"], ns := 43, qualname := Str.ofString "RunFault" }, slots := #[some (Value.ref 35), none, some (Value.str (Str.ofString "RunFault") 218), some (Value.str (Str.ofString "RunFault") 226), some (Value.builtin "Exception.__new__"), some (Value.bool true)] },
  { cls := Value.type "super", data := Data.fields #[Value.ref 44, Value.ref 44, Value.ref 44] },
  { cls := Value.type "builtin_function_or_method", data := Data.fields #[Value.builtin "object.__init_subclass__", Value.ref 44] },
  { cls := Value.type "tuple", data := Data.seq #[Value.int 0 236, Value.int 0 237] },
  { cls := Value.type "tuple", data := Data.seq #[] },
  { cls := Value.none, data := Data.fields #[] },
  { cls := Value.type "tuple", data := Data.seq #[Value.str (Str.ofString "n") 246, Value.str (Str.ofString "count") 247] },
  { cls := Value.type "tuple", data := Data.seq #[] },
  { cls := Value.none, data := Data.func { name := Str.ofString "count_digits", qualname := Str.ofString "count_digits", params := cutA 7, body := cutB 7, scope := cutC 7, globals := 0, closure := [], defaults := Value.none, kwdefaults := Value.none } },
  { cls := Value.type "code", data := Data.fields #[Value.str (Str.ofString "count_digits") 243, Value.str (Str.ofString "count_digits") 244, Value.str (Str.ofString "/claim/cut.py") 245, Value.int 13 0, Value.int 1 0, Value.int 0 0, Value.int 0 0, Value.int 3 0, Value.ref 48, Value.bool true, Value.int 181 0, Value.ref 49, Value.none, Value.ref 50, Value.ref 51, Value.ref 52, Value.int 248 0, Value.int 13 0, Value.str (Str.ofString "/claim/cut.py") 249] },
  { cls := Value.type "function", data := Data.func { name := Str.ofString "count_digits", qualname := Str.ofString "count_digits", params := cutA 7, body := cutB 7, scope := cutC 7, globals := 3, closure := [], defaults := Value.none, kwdefaults := Value.none, pyModule := Value.str (Str.ofString "f77.reals") 234, code := Value.ref 53 } },
  { cls := Value.type "tuple", data := Data.seq #[] },
  { cls := Value.none, data := Data.fields #[] },
  { cls := Value.type "tuple", data := Data.seq #[Value.str (Str.ofString "m") 254, Value.str (Str.ofString "e") 255] },
  { cls := Value.type "tuple", data := Data.seq #[] },
  { cls := Value.none, data := Data.func { name := Str.ofString "strip_zeros", qualname := Str.ofString "strip_zeros", params := cutA 8, body := cutB 8, scope := cutC 8, globals := 0, closure := [], defaults := Value.none, kwdefaults := Value.none } },
  { cls := Value.type "code", data := Data.fields #[Value.str (Str.ofString "strip_zeros") 251, Value.str (Str.ofString "strip_zeros") 252, Value.str (Str.ofString "/claim/cut.py") 253, Value.int 23 0, Value.int 2 0, Value.int 0 0, Value.int 0 0, Value.int 3 0, Value.ref 55, Value.bool true, Value.int 181 0, Value.ref 56, Value.none, Value.ref 57, Value.ref 58, Value.ref 59, Value.int 256 0, Value.int 23 0, Value.str (Str.ofString "/claim/cut.py") 257] },
  { cls := Value.type "function", data := Data.func { name := Str.ofString "strip_zeros", qualname := Str.ofString "strip_zeros", params := cutA 8, body := cutB 8, scope := cutC 8, globals := 3, closure := [], defaults := Value.none, kwdefaults := Value.none, pyModule := Value.str (Str.ofString "f77.reals") 234, code := Value.ref 60 } },
  { cls := Value.type "tuple", data := Data.seq #[] },
  { cls := Value.none, data := Data.fields #[] },
  { cls := Value.type "tuple", data := Data.seq #[Value.str (Str.ofString "m") 262, Value.str (Str.ofString "e") 263, Value.str (Str.ofString "digits") 264, Value.str (Str.ofString "drop") 265, Value.str (Str.ofString "power") 266, Value.str (Str.ofString "kept") 267, Value.str (Str.ofString "rest") 268] },
  { cls := Value.type "tuple", data := Data.seq #[] },
  { cls := Value.none, data := Data.func { name := Str.ofString "round_digits", qualname := Str.ofString "round_digits", params := cutA 9, body := cutB 9, scope := cutC 9, globals := 0, closure := [], defaults := Value.none, kwdefaults := Value.none } },
  { cls := Value.type "code", data := Data.fields #[Value.str (Str.ofString "round_digits") 259, Value.str (Str.ofString "round_digits") 260, Value.str (Str.ofString "/claim/cut.py") 261, Value.int 30 0, Value.int 3 0, Value.int 0 0, Value.int 0 0, Value.int 3 0, Value.ref 62, Value.bool true, Value.int 181 0, Value.ref 63, Value.none, Value.ref 64, Value.ref 65, Value.ref 66, Value.int 269 0, Value.int 30 0, Value.str (Str.ofString "/claim/cut.py") 270] },
  { cls := Value.type "function", data := Data.func { name := Str.ofString "round_digits", qualname := Str.ofString "round_digits", params := cutA 9, body := cutB 9, scope := cutC 9, globals := 3, closure := [], defaults := Value.none, kwdefaults := Value.none, pyModule := Value.str (Str.ofString "f77.reals") 234, code := Value.ref 67 } },
  { cls := Value.type "tuple", data := Data.seq #[] },
  { cls := Value.none, data := Data.fields #[] },
  { cls := Value.type "tuple", data := Data.seq #[Value.str (Str.ofString "m") 275, Value.str (Str.ofString "e") 276, Value.str (Str.ofString "digits") 277, Value.str (Str.ofString "top") 278, Value.str (Str.ofString "lead") 279] },
  { cls := Value.type "tuple", data := Data.seq #[] },
  { cls := Value.none, data := Data.func { name := Str.ofString "round_real", qualname := Str.ofString "round_real", params := cutA 10, body := cutB 10, scope := cutC 10, globals := 0, closure := [], defaults := Value.none, kwdefaults := Value.none } },
  { cls := Value.type "code", data := Data.fields #[Value.str (Str.ofString "round_real") 272, Value.str (Str.ofString "round_real") 273, Value.str (Str.ofString "/claim/cut.py") 274, Value.int 40 0, Value.int 4 0, Value.int 0 0, Value.int 0 0, Value.int 3 0, Value.ref 69, Value.bool true, Value.int 181 0, Value.ref 70, Value.none, Value.ref 71, Value.ref 72, Value.ref 73, Value.int 280 0, Value.int 40 0, Value.str (Str.ofString "/claim/cut.py") 281] },
  { cls := Value.type "function", data := Data.func { name := Str.ofString "round_real", qualname := Str.ofString "round_real", params := cutA 10, body := cutB 10, scope := cutC 10, globals := 3, closure := [], defaults := Value.none, kwdefaults := Value.none, pyModule := Value.str (Str.ofString "f77.reals") 234, code := Value.ref 74 } },
  { cls := Value.type "tuple", data := Data.seq #[] },
  { cls := Value.none, data := Data.fields #[] },
  { cls := Value.type "tuple", data := Data.seq #[Value.str (Str.ofString "x") 286, Value.str (Str.ofString "y") 287, Value.str (Str.ofString "low") 288] },
  { cls := Value.type "tuple", data := Data.seq #[] },
  { cls := Value.none, data := Data.func { name := Str.ofString "exact_add", qualname := Str.ofString "exact_add", params := cutA 11, body := cutB 11, scope := cutC 11, globals := 0, closure := [], defaults := Value.none, kwdefaults := Value.none } },
  { cls := Value.type "code", data := Data.fields #[Value.str (Str.ofString "exact_add") 283, Value.str (Str.ofString "exact_add") 284, Value.str (Str.ofString "/claim/cut.py") 285, Value.int 48 0, Value.int 2 0, Value.int 0 0, Value.int 0 0, Value.int 3 0, Value.ref 76, Value.bool true, Value.int 181 0, Value.ref 77, Value.none, Value.ref 78, Value.ref 79, Value.ref 80, Value.int 289 0, Value.int 48 0, Value.str (Str.ofString "/claim/cut.py") 290] },
  { cls := Value.type "function", data := Data.func { name := Str.ofString "exact_add", qualname := Str.ofString "exact_add", params := cutA 11, body := cutB 11, scope := cutC 11, globals := 3, closure := [], defaults := Value.none, kwdefaults := Value.none, pyModule := Value.str (Str.ofString "f77.reals") 234, code := Value.ref 81 } },
  { cls := Value.type "tuple", data := Data.seq #[] },
  { cls := Value.none, data := Data.fields #[] },
  { cls := Value.type "tuple", data := Data.seq #[Value.str (Str.ofString "x") 295, Value.str (Str.ofString "y") 296] },
  { cls := Value.type "tuple", data := Data.seq #[] },
  { cls := Value.none, data := Data.func { name := Str.ofString "exact_mul", qualname := Str.ofString "exact_mul", params := cutA 12, body := cutB 12, scope := cutC 12, globals := 0, closure := [], defaults := Value.none, kwdefaults := Value.none } },
  { cls := Value.type "code", data := Data.fields #[Value.str (Str.ofString "exact_mul") 292, Value.str (Str.ofString "exact_mul") 293, Value.str (Str.ofString "/claim/cut.py") 294, Value.int 51 0, Value.int 2 0, Value.int 0 0, Value.int 0 0, Value.int 3 0, Value.ref 83, Value.bool true, Value.int 181 0, Value.ref 84, Value.none, Value.ref 85, Value.ref 86, Value.ref 87, Value.int 297 0, Value.int 51 0, Value.str (Str.ofString "/claim/cut.py") 298] },
  { cls := Value.type "function", data := Data.func { name := Str.ofString "exact_mul", qualname := Str.ofString "exact_mul", params := cutA 12, body := cutB 12, scope := cutC 12, globals := 3, closure := [], defaults := Value.none, kwdefaults := Value.none, pyModule := Value.str (Str.ofString "f77.reals") 234, code := Value.ref 88 } },
  { cls := Value.type "tuple", data := Data.seq #[] },
  { cls := Value.none, data := Data.fields #[] },
  { cls := Value.type "tuple", data := Data.seq #[Value.str (Str.ofString "x") 303] },
  { cls := Value.type "tuple", data := Data.seq #[] },
  { cls := Value.none, data := Data.func { name := Str.ofString "real_neg", qualname := Str.ofString "real_neg", params := cutA 13, body := cutB 13, scope := cutC 13, globals := 0, closure := [], defaults := Value.none, kwdefaults := Value.none } },
  { cls := Value.type "code", data := Data.fields #[Value.str (Str.ofString "real_neg") 300, Value.str (Str.ofString "real_neg") 301, Value.str (Str.ofString "/claim/cut.py") 302, Value.int 53 0, Value.int 1 0, Value.int 0 0, Value.int 0 0, Value.int 3 0, Value.ref 90, Value.bool true, Value.int 181 0, Value.ref 91, Value.none, Value.ref 92, Value.ref 93, Value.ref 94, Value.int 304 0, Value.int 53 0, Value.str (Str.ofString "/claim/cut.py") 305] },
  { cls := Value.type "function", data := Data.func { name := Str.ofString "real_neg", qualname := Str.ofString "real_neg", params := cutA 13, body := cutB 13, scope := cutC 13, globals := 3, closure := [], defaults := Value.none, kwdefaults := Value.none, pyModule := Value.str (Str.ofString "f77.reals") 234, code := Value.ref 95 } },
  { cls := Value.type "tuple", data := Data.seq #[] },
  { cls := Value.none, data := Data.fields #[] },
  { cls := Value.type "tuple", data := Data.seq #[Value.str (Str.ofString "over") 310, Value.str (Str.ofString "under") 311, Value.str (Str.ofString "e") 312, Value.str (Str.ofString "digits") 313, Value.str (Str.ofString "shift") 314, Value.str (Str.ofString "kept") 315, Value.str (Str.ofString "rest") 316, Value.str (Str.ofString "m") 317] },
  { cls := Value.type "tuple", data := Data.seq #[] },
  { cls := Value.none, data := Data.func { name := Str.ofString "quotient", qualname := Str.ofString "quotient", params := cutA 14, body := cutB 14, scope := cutC 14, globals := 0, closure := [], defaults := Value.none, kwdefaults := Value.none } },
  { cls := Value.type "code", data := Data.fields #[Value.str (Str.ofString "quotient") 307, Value.str (Str.ofString "quotient") 308, Value.str (Str.ofString "/claim/cut.py") 309, Value.int 55 0, Value.int 4 0, Value.int 0 0, Value.int 0 0, Value.int 3 0, Value.ref 97, Value.bool true, Value.int 181 0, Value.ref 98, Value.none, Value.ref 99, Value.ref 100, Value.ref 101, Value.int 318 0, Value.int 55 0, Value.str (Str.ofString "/claim/cut.py") 319] },
  { cls := Value.type "function", data := Data.func { name := Str.ofString "quotient", qualname := Str.ofString "quotient", params := cutA 14, body := cutB 14, scope := cutC 14, globals := 3, closure := [], defaults := Value.none, kwdefaults := Value.none, pyModule := Value.str (Str.ofString "f77.reals") 234, code := Value.ref 102 } },
  { cls := Value.type "tuple", data := Data.seq #[] },
  { cls := Value.none, data := Data.fields #[] },
  { cls := Value.type "tuple", data := Data.seq #[Value.str (Str.ofString "x") 324, Value.str (Str.ofString "y") 325, Value.str (Str.ofString "digits") 326, Value.str (Str.ofString "top") 327, Value.str (Str.ofString "m") 328, Value.str (Str.ofString "e") 329] },
  { cls := Value.type "tuple", data := Data.seq #[] },
  { cls := Value.none, data := Data.func { name := Str.ofString "real_add", qualname := Str.ofString "real_add", params := cutA 15, body := cutB 15, scope := cutC 15, globals := 0, closure := [], defaults := Value.none, kwdefaults := Value.none } },
  { cls := Value.type "code", data := Data.fields #[Value.str (Str.ofString "real_add") 321, Value.str (Str.ofString "real_add") 322, Value.str (Str.ofString "/claim/cut.py") 323, Value.int 62 0, Value.int 4 0, Value.int 0 0, Value.int 0 0, Value.int 3 0, Value.ref 104, Value.bool true, Value.int 181 0, Value.ref 105, Value.none, Value.ref 106, Value.ref 107, Value.ref 108, Value.int 330 0, Value.int 62 0, Value.str (Str.ofString "/claim/cut.py") 331] },
  { cls := Value.type "function", data := Data.func { name := Str.ofString "real_add", qualname := Str.ofString "real_add", params := cutA 15, body := cutB 15, scope := cutC 15, globals := 3, closure := [], defaults := Value.none, kwdefaults := Value.none, pyModule := Value.str (Str.ofString "f77.reals") 234, code := Value.ref 109 } },
  { cls := Value.type "tuple", data := Data.seq #[] },
  { cls := Value.none, data := Data.fields #[] },
  { cls := Value.type "tuple", data := Data.seq #[Value.str (Str.ofString "x") 336, Value.str (Str.ofString "y") 337, Value.str (Str.ofString "digits") 338, Value.str (Str.ofString "top") 339, Value.str (Str.ofString "m") 340, Value.str (Str.ofString "e") 341] },
  { cls := Value.type "tuple", data := Data.seq #[] },
  { cls := Value.none, data := Data.func { name := Str.ofString "real_sub", qualname := Str.ofString "real_sub", params := cutA 16, body := cutB 16, scope := cutC 16, globals := 0, closure := [], defaults := Value.none, kwdefaults := Value.none } },
  { cls := Value.type "code", data := Data.fields #[Value.str (Str.ofString "real_sub") 333, Value.str (Str.ofString "real_sub") 334, Value.str (Str.ofString "/claim/cut.py") 335, Value.int 65 0, Value.int 4 0, Value.int 0 0, Value.int 0 0, Value.int 3 0, Value.ref 111, Value.bool true, Value.int 181 0, Value.ref 112, Value.none, Value.ref 113, Value.ref 114, Value.ref 115, Value.int 342 0, Value.int 65 0, Value.str (Str.ofString "/claim/cut.py") 343] },
  { cls := Value.type "function", data := Data.func { name := Str.ofString "real_sub", qualname := Str.ofString "real_sub", params := cutA 16, body := cutB 16, scope := cutC 16, globals := 3, closure := [], defaults := Value.none, kwdefaults := Value.none, pyModule := Value.str (Str.ofString "f77.reals") 234, code := Value.ref 116 } },
  { cls := Value.type "tuple", data := Data.seq #[] },
  { cls := Value.none, data := Data.fields #[] },
  { cls := Value.type "tuple", data := Data.seq #[Value.str (Str.ofString "x") 348, Value.str (Str.ofString "y") 349, Value.str (Str.ofString "digits") 350, Value.str (Str.ofString "top") 351, Value.str (Str.ofString "m") 352, Value.str (Str.ofString "e") 353] },
  { cls := Value.type "tuple", data := Data.seq #[] },
  { cls := Value.none, data := Data.func { name := Str.ofString "real_mul", qualname := Str.ofString "real_mul", params := cutA 17, body := cutB 17, scope := cutC 17, globals := 0, closure := [], defaults := Value.none, kwdefaults := Value.none } },
  { cls := Value.type "code", data := Data.fields #[Value.str (Str.ofString "real_mul") 345, Value.str (Str.ofString "real_mul") 346, Value.str (Str.ofString "/claim/cut.py") 347, Value.int 68 0, Value.int 4 0, Value.int 0 0, Value.int 0 0, Value.int 3 0, Value.ref 118, Value.bool true, Value.int 181 0, Value.ref 119, Value.none, Value.ref 120, Value.ref 121, Value.ref 122, Value.int 354 0, Value.int 68 0, Value.str (Str.ofString "/claim/cut.py") 355] },
  { cls := Value.type "function", data := Data.func { name := Str.ofString "real_mul", qualname := Str.ofString "real_mul", params := cutA 17, body := cutB 17, scope := cutC 17, globals := 3, closure := [], defaults := Value.none, kwdefaults := Value.none, pyModule := Value.str (Str.ofString "f77.reals") 234, code := Value.ref 123 } },
  { cls := Value.type "tuple", data := Data.seq #[] },
  { cls := Value.none, data := Data.fields #[] },
  { cls := Value.type "tuple", data := Data.seq #[Value.str (Str.ofString "x") 360, Value.str (Str.ofString "y") 361, Value.str (Str.ofString "digits") 362, Value.str (Str.ofString "top") 363, Value.str (Str.ofString "m") 364, Value.str (Str.ofString "e") 365] },
  { cls := Value.type "tuple", data := Data.seq #[] },
  { cls := Value.none, data := Data.func { name := Str.ofString "real_div", qualname := Str.ofString "real_div", params := cutA 18, body := cutB 18, scope := cutC 18, globals := 0, closure := [], defaults := Value.none, kwdefaults := Value.none } },
  { cls := Value.type "code", data := Data.fields #[Value.str (Str.ofString "real_div") 357, Value.str (Str.ofString "real_div") 358, Value.str (Str.ofString "/claim/cut.py") 359, Value.int 71 0, Value.int 4 0, Value.int 0 0, Value.int 0 0, Value.int 3 0, Value.ref 125, Value.bool true, Value.int 181 0, Value.ref 126, Value.none, Value.ref 127, Value.ref 128, Value.ref 129, Value.int 366 0, Value.int 71 0, Value.str (Str.ofString "/claim/cut.py") 367] },
  { cls := Value.type "function", data := Data.func { name := Str.ofString "real_div", qualname := Str.ofString "real_div", params := cutA 18, body := cutB 18, scope := cutC 18, globals := 3, closure := [], defaults := Value.none, kwdefaults := Value.none, pyModule := Value.str (Str.ofString "f77.reals") 234, code := Value.ref 130 } },
  { cls := Value.type "tuple", data := Data.seq #[] },
  { cls := Value.none, data := Data.fields #[] },
  { cls := Value.type "tuple", data := Data.seq #[Value.str (Str.ofString "x") 372, Value.str (Str.ofString "y") 373, Value.str (Str.ofString "m") 374] },
  { cls := Value.type "tuple", data := Data.seq #[] },
  { cls := Value.none, data := Data.func { name := Str.ofString "real_compare", qualname := Str.ofString "real_compare", params := cutA 19, body := cutB 19, scope := cutC 19, globals := 0, closure := [], defaults := Value.none, kwdefaults := Value.none } },
  { cls := Value.type "code", data := Data.fields #[Value.str (Str.ofString "real_compare") 369, Value.str (Str.ofString "real_compare") 370, Value.str (Str.ofString "/claim/cut.py") 371, Value.int 76 0, Value.int 2 0, Value.int 0 0, Value.int 0 0, Value.int 3 0, Value.ref 132, Value.bool true, Value.int 181 0, Value.ref 133, Value.none, Value.ref 134, Value.ref 135, Value.ref 136, Value.int 375 0, Value.int 76 0, Value.str (Str.ofString "/claim/cut.py") 376] },
  { cls := Value.type "function", data := Data.func { name := Str.ofString "real_compare", qualname := Str.ofString "real_compare", params := cutA 19, body := cutB 19, scope := cutC 19, globals := 3, closure := [], defaults := Value.none, kwdefaults := Value.none, pyModule := Value.str (Str.ofString "f77.reals") 234, code := Value.ref 137 } },
  { cls := Value.type "tuple", data := Data.seq #[] },
  { cls := Value.none, data := Data.fields #[] },
  { cls := Value.type "tuple", data := Data.seq #[Value.str (Str.ofString "n") 381, Value.str (Str.ofString "digits") 382, Value.str (Str.ofString "top") 383] },
  { cls := Value.type "tuple", data := Data.seq #[] },
  { cls := Value.none, data := Data.func { name := Str.ofString "real_of_int", qualname := Str.ofString "real_of_int", params := cutA 20, body := cutB 20, scope := cutC 20, globals := 0, closure := [], defaults := Value.none, kwdefaults := Value.none } },
  { cls := Value.type "code", data := Data.fields #[Value.str (Str.ofString "real_of_int") 378, Value.str (Str.ofString "real_of_int") 379, Value.str (Str.ofString "/claim/cut.py") 380, Value.int 81 0, Value.int 3 0, Value.int 0 0, Value.int 0 0, Value.int 3 0, Value.ref 139, Value.bool true, Value.int 181 0, Value.ref 140, Value.none, Value.ref 141, Value.ref 142, Value.ref 143, Value.int 384 0, Value.int 81 0, Value.str (Str.ofString "/claim/cut.py") 385] },
  { cls := Value.type "function", data := Data.func { name := Str.ofString "real_of_int", qualname := Str.ofString "real_of_int", params := cutA 20, body := cutB 20, scope := cutC 20, globals := 3, closure := [], defaults := Value.none, kwdefaults := Value.none, pyModule := Value.str (Str.ofString "f77.reals") 234, code := Value.ref 144 } },
  { cls := Value.type "tuple", data := Data.seq #[] },
  { cls := Value.none, data := Data.fields #[] },
  { cls := Value.type "tuple", data := Data.seq #[Value.str (Str.ofString "x") 390, Value.str (Str.ofString "m") 391, Value.str (Str.ofString "e") 392, Value.str (Str.ofString "found") 393] },
  { cls := Value.type "tuple", data := Data.seq #[] },
  { cls := Value.none, data := Data.func { name := Str.ofString "real_to_int", qualname := Str.ofString "real_to_int", params := cutA 21, body := cutB 21, scope := cutC 21, globals := 0, closure := [], defaults := Value.none, kwdefaults := Value.none } },
  { cls := Value.type "code", data := Data.fields #[Value.str (Str.ofString "real_to_int") 387, Value.str (Str.ofString "real_to_int") 388, Value.str (Str.ofString "/claim/cut.py") 389, Value.int 83 0, Value.int 1 0, Value.int 0 0, Value.int 0 0, Value.int 3 0, Value.ref 146, Value.bool true, Value.int 181 0, Value.ref 147, Value.none, Value.ref 148, Value.ref 149, Value.ref 150, Value.int 394 0, Value.int 83 0, Value.str (Str.ofString "/claim/cut.py") 395] },
  { cls := Value.type "function", data := Data.func { name := Str.ofString "real_to_int", qualname := Str.ofString "real_to_int", params := cutA 21, body := cutB 21, scope := cutC 21, globals := 3, closure := [], defaults := Value.none, kwdefaults := Value.none, pyModule := Value.str (Str.ofString "f77.reals") 234, code := Value.ref 151 } },
  { cls := Value.type "tuple", data := Data.seq #[] },
  { cls := Value.none, data := Data.fields #[] },
  { cls := Value.type "tuple", data := Data.seq #[Value.str (Str.ofString "x") 400, Value.str (Str.ofString "n") 401, Value.str (Str.ofString "digits") 402, Value.str (Str.ofString "found") 403] },
  { cls := Value.type "tuple", data := Data.seq #[] },
  { cls := Value.none, data := Data.func { name := Str.ofString "raised", qualname := Str.ofString "raised", params := cutA 22, body := cutB 22, scope := cutC 22, globals := 0, closure := [], defaults := Value.none, kwdefaults := Value.none } },
  { cls := Value.type "code", data := Data.fields #[Value.str (Str.ofString "raised") 397, Value.str (Str.ofString "raised") 398, Value.str (Str.ofString "/claim/cut.py") 399, Value.int 89 0, Value.int 3 0, Value.int 0 0, Value.int 0 0, Value.int 3 0, Value.ref 153, Value.bool true, Value.int 181 0, Value.ref 154, Value.none, Value.ref 155, Value.ref 156, Value.ref 157, Value.int 404 0, Value.int 89 0, Value.str (Str.ofString "/claim/cut.py") 405] },
  { cls := Value.type "function", data := Data.func { name := Str.ofString "raised", qualname := Str.ofString "raised", params := cutA 22, body := cutB 22, scope := cutC 22, globals := 3, closure := [], defaults := Value.none, kwdefaults := Value.none, pyModule := Value.str (Str.ofString "f77.reals") 234, code := Value.ref 158 } },
  { cls := Value.type "tuple", data := Data.seq #[] },
  { cls := Value.none, data := Data.fields #[] },
  { cls := Value.type "tuple", data := Data.seq #[Value.str (Str.ofString "x") 410, Value.str (Str.ofString "n") 411, Value.str (Str.ofString "digits") 412, Value.str (Str.ofString "top") 413, Value.str (Str.ofString "m") 414, Value.str (Str.ofString "e") 415] },
  { cls := Value.type "tuple", data := Data.seq #[] },
  { cls := Value.none, data := Data.func { name := Str.ofString "real_power", qualname := Str.ofString "real_power", params := cutA 23, body := cutB 23, scope := cutC 23, globals := 0, closure := [], defaults := Value.none, kwdefaults := Value.none } },
  { cls := Value.type "code", data := Data.fields #[Value.str (Str.ofString "real_power") 407, Value.str (Str.ofString "real_power") 408, Value.str (Str.ofString "/claim/cut.py") 409, Value.int 99 0, Value.int 4 0, Value.int 0 0, Value.int 0 0, Value.int 3 0, Value.ref 160, Value.bool true, Value.int 181 0, Value.ref 161, Value.none, Value.ref 162, Value.ref 163, Value.ref 164, Value.int 416 0, Value.int 99 0, Value.str (Str.ofString "/claim/cut.py") 417] },
  { cls := Value.type "function", data := Data.func { name := Str.ofString "real_power", qualname := Str.ofString "real_power", params := cutA 23, body := cutB 23, scope := cutC 23, globals := 3, closure := [], defaults := Value.none, kwdefaults := Value.none, pyModule := Value.str (Str.ofString "f77.reals") 234, code := Value.ref 165 } },
  { cls := Value.type "tuple", data := Data.seq #[] },
  { cls := Value.none, data := Data.fields #[] },
  { cls := Value.type "tuple", data := Data.seq #[Value.str (Str.ofString "nums") 424, Value.str (Str.ofString "i") 425, Value.str (Str.ofString "m") 426] },
  { cls := Value.type "tuple", data := Data.seq #[] },
  { cls := Value.none, data := Data.func { name := Str.ofString "_law_pick", qualname := Str.ofString "_law_pick", params := cutA 25, body := cutB 25, scope := cutC 25, globals := 0, closure := [], defaults := Value.none, kwdefaults := Value.none } },
  { cls := Value.type "code", data := Data.fields #[Value.str (Str.ofString "_law_pick") 421, Value.str (Str.ofString "_law_pick") 422, Value.str (Str.ofString "/claim/cut.py") 423, Value.int 107 0, Value.int 3 0, Value.int 0 0, Value.int 0 0, Value.int 3 0, Value.ref 167, Value.bool true, Value.int 181 0, Value.ref 168, Value.none, Value.ref 169, Value.ref 170, Value.ref 171, Value.int 427 0, Value.int 107 0, Value.str (Str.ofString "/claim/cut.py") 428] },
  { cls := Value.type "function", data := Data.func { name := Str.ofString "_law_pick", qualname := Str.ofString "_law_pick", params := cutA 25, body := cutB 25, scope := cutC 25, globals := 3, closure := [], defaults := Value.none, kwdefaults := Value.none, pyModule := Value.str (Str.ofString "law_no0229_01") 419, code := Value.ref 172 } },
  { cls := Value.type "tuple", data := Data.seq #[Value.int 0 430] },
  { cls := Value.type "tuple", data := Data.seq #[] },
  { cls := Value.none, data := Data.fields #[] },
  { cls := Value.type "tuple", data := Data.seq #[Value.str (Str.ofString "a") 434, Value.str (Str.ofString "b") 435, Value.str (Str.ofString "digits") 436, Value.str (Str.ofString "top") 437, Value.str (Str.ofString "ten") 438, Value.str (Str.ofString "sign") 439, Value.str (Str.ofString "lead") 440, Value.str (Str.ofString "shift") 441, Value.str (Str.ofString "row") 442, Value.str (Str.ofString "rest") 443, Value.str (Str.ofString "figures") 444] },
  { cls := Value.type "tuple", data := Data.seq #[] },
  { cls := Value.none, data := Data.func { name := Str.ofString "_law_round", qualname := Str.ofString "_law_round", params := cutA 26, body := cutB 26, scope := cutC 26, globals := 0, closure := [], defaults := Value.none, kwdefaults := Value.none } },
  { cls := Value.type "code", data := Data.fields #[Value.str (Str.ofString "_law_round") 431, Value.str (Str.ofString "_law_round") 432, Value.str (Str.ofString "/claim/cut.py") 433, Value.int 109 0, Value.int 5 0, Value.int 0 0, Value.int 0 0, Value.int 3 0, Value.ref 175, Value.bool true, Value.int 181 0, Value.ref 176, Value.none, Value.ref 177, Value.ref 178, Value.ref 179, Value.int 445 0, Value.int 109 0, Value.str (Str.ofString "/claim/cut.py") 446] },
  { cls := Value.type "function", data := Data.func { name := Str.ofString "_law_round", qualname := Str.ofString "_law_round", params := cutA 26, body := cutB 26, scope := cutC 26, globals := 3, closure := [], defaults := Value.ref 174, kwdefaults := Value.none, pyModule := Value.str (Str.ofString "law_no0229_01") 419, code := Value.ref 180 } },
  { cls := Value.type "tuple", data := Data.seq #[] },
  { cls := Value.none, data := Data.fields #[] },
  { cls := Value.type "tuple", data := Data.seq #[Value.str (Str.ofString "x") 451] },
  { cls := Value.type "tuple", data := Data.seq #[] },
  { cls := Value.none, data := Data.func { name := Str.ofString "_law_fraction", qualname := Str.ofString "_law_fraction", params := cutA 27, body := cutB 27, scope := cutC 27, globals := 0, closure := [], defaults := Value.none, kwdefaults := Value.none } },
  { cls := Value.type "code", data := Data.fields #[Value.str (Str.ofString "_law_fraction") 448, Value.str (Str.ofString "_law_fraction") 449, Value.str (Str.ofString "/claim/cut.py") 450, Value.int 132 0, Value.int 1 0, Value.int 0 0, Value.int 0 0, Value.int 3 0, Value.ref 182, Value.bool true, Value.int 181 0, Value.ref 183, Value.none, Value.ref 184, Value.ref 185, Value.ref 186, Value.int 452 0, Value.int 132 0, Value.str (Str.ofString "/claim/cut.py") 453] },
  { cls := Value.type "function", data := Data.func { name := Str.ofString "_law_fraction", qualname := Str.ofString "_law_fraction", params := cutA 27, body := cutB 27, scope := cutC 27, globals := 3, closure := [], defaults := Value.none, kwdefaults := Value.none, pyModule := Value.str (Str.ofString "law_no0229_01") 419, code := Value.ref 187 } },
  { cls := Value.type "tuple", data := Data.seq #[] },
  { cls := Value.none, data := Data.fields #[] },
  { cls := Value.type "tuple", data := Data.seq #[Value.str (Str.ofString "nums") 458, Value.str (Str.ofString "i") 459, Value.str (Str.ofString "digits") 460, Value.str (Str.ofString "top") 461, Value.str (Str.ofString "v") 462, Value.str (Str.ofString "w") 463, Value.str (Str.ofString "figures") 464, Value.str (Str.ofString "lead") 465] },
  { cls := Value.type "tuple", data := Data.seq #[] },
  { cls := Value.none, data := Data.func { name := Str.ofString "_law_real", qualname := Str.ofString "_law_real", params := cutA 28, body := cutB 28, scope := cutC 28, globals := 0, closure := [], defaults := Value.none, kwdefaults := Value.none } },
  { cls := Value.type "code", data := Data.fields #[Value.str (Str.ofString "_law_real") 455, Value.str (Str.ofString "_law_real") 456, Value.str (Str.ofString "/claim/cut.py") 457, Value.int 134 0, Value.int 4 0, Value.int 0 0, Value.int 0 0, Value.int 3 0, Value.ref 189, Value.bool true, Value.int 181 0, Value.ref 190, Value.none, Value.ref 191, Value.ref 192, Value.ref 193, Value.int 466 0, Value.int 134 0, Value.str (Str.ofString "/claim/cut.py") 467] },
  { cls := Value.type "function", data := Data.func { name := Str.ofString "_law_real", qualname := Str.ofString "_law_real", params := cutA 28, body := cutB 28, scope := cutC 28, globals := 3, closure := [], defaults := Value.none, kwdefaults := Value.none, pyModule := Value.str (Str.ofString "law_no0229_01") 419, code := Value.ref 194 } },
  { cls := Value.type "tuple", data := Data.seq #[] },
  { cls := Value.none, data := Data.fields #[] },
  { cls := Value.type "tuple", data := Data.seq #[Value.str (Str.ofString "op") 472, Value.str (Str.ofString "x") 473, Value.str (Str.ofString "y") 474, Value.str (Str.ofString "digits") 475, Value.str (Str.ofString "top") 476] },
  { cls := Value.type "tuple", data := Data.seq #[] },
  { cls := Value.none, data := Data.func { name := Str.ofString "_law_heard", qualname := Str.ofString "_law_heard", params := cutA 29, body := cutB 29, scope := cutC 29, globals := 0, closure := [], defaults := Value.none, kwdefaults := Value.none } },
  { cls := Value.type "code", data := Data.fields #[Value.str (Str.ofString "_law_heard") 469, Value.str (Str.ofString "_law_heard") 470, Value.str (Str.ofString "/claim/cut.py") 471, Value.int 142 0, Value.int 5 0, Value.int 0 0, Value.int 0 0, Value.int 3 0, Value.ref 196, Value.bool true, Value.int 181 0, Value.ref 197, Value.none, Value.ref 198, Value.ref 199, Value.ref 200, Value.int 477 0, Value.int 142 0, Value.str (Str.ofString "/claim/cut.py") 478] },
  { cls := Value.type "function", data := Data.func { name := Str.ofString "_law_heard", qualname := Str.ofString "_law_heard", params := cutA 29, body := cutB 29, scope := cutC 29, globals := 3, closure := [], defaults := Value.none, kwdefaults := Value.none, pyModule := Value.str (Str.ofString "law_no0229_01") 419, code := Value.ref 201 } },
  { cls := Value.type "tuple", data := Data.seq #[] },
  { cls := Value.none, data := Data.fields #[] },
  { cls := Value.type "tuple", data := Data.seq #[Value.str (Str.ofString "x") 483, Value.str (Str.ofString "n") 484, Value.str (Str.ofString "digits") 485, Value.str (Str.ofString "top") 486, Value.str (Str.ofString "got") 487, Value.str (Str.ofString "a") 488, Value.str (Str.ofString "b") 489, Value.str (Str.ofString "ten") 490, Value.str (Str.ofString "far") 491, Value.str (Str.ofString "lead") 492, Value.str (Str.ofString "last") 493, Value.str (Str.ofString "low") 494] },
  { cls := Value.type "tuple", data := Data.seq #[] },
  { cls := Value.none, data := Data.func { name := Str.ofString "_law_power_right", qualname := Str.ofString "_law_power_right", params := cutA 30, body := cutB 30, scope := cutC 30, globals := 0, closure := [], defaults := Value.none, kwdefaults := Value.none } },
  { cls := Value.type "code", data := Data.fields #[Value.str (Str.ofString "_law_power_right") 480, Value.str (Str.ofString "_law_power_right") 481, Value.str (Str.ofString "/claim/cut.py") 482, Value.int 159 0, Value.int 4 0, Value.int 0 0, Value.int 0 0, Value.int 3 0, Value.ref 203, Value.bool true, Value.int 181 0, Value.ref 204, Value.none, Value.ref 205, Value.ref 206, Value.ref 207, Value.int 495 0, Value.int 159 0, Value.str (Str.ofString "/claim/cut.py") 496] },
  { cls := Value.type "function", data := Data.func { name := Str.ofString "_law_power_right", qualname := Str.ofString "_law_power_right", params := cutA 30, body := cutB 30, scope := cutC 30, globals := 3, closure := [], defaults := Value.none, kwdefaults := Value.none, pyModule := Value.str (Str.ofString "law_no0229_01") 419, code := Value.ref 208 } },
  { cls := Value.type "tuple", data := Data.seq #[] },
  { cls := Value.none, data := Data.fields #[] },
  { cls := Value.none, data := Data.func { name := Str.ofString "law", qualname := Str.ofString "law", params := cutA 31, body := cutB 31, scope := cutC 31, globals := 0, closure := [], defaults := Value.none, kwdefaults := Value.none } },
  { cls := Value.type "code", data := Data.fields #[Value.str (Str.ofString "law") 498, Value.str (Str.ofString "law") 499, Value.str (Str.ofString "/claim/cut.py") 500, Value.int 179 0, Value.int 1 0, Value.int 0 0, Value.int 0 0, Value.int 3 0, Value.ref 210, Value.bool true, Value.int 181 0, Value.ref 211, Value.none, Value.none, Value.none, Value.ref 212, Value.int 501 0, Value.int 179 0, Value.str (Str.ofString "/claim/cut.py") 502] },
  { cls := Value.type "function", data := Data.func { name := Str.ofString "law", qualname := Str.ofString "law", params := cutA 31, body := cutB 31, scope := cutC 31, globals := 3, closure := [], defaults := Value.none, kwdefaults := Value.none, pyModule := Value.str (Str.ofString "law_no0229_01") 419, code := Value.ref 213 } }]
noncomputable abbrev cutT (objs : Params → List Obj) (n tk : Nat) (w : World) (os : OsState) : SharedT := ⟨cutBt (objs w.params), n, {}, #[], boot_drawn, tk, os⟩
noncomputable abbrev cutH (P : Params) : Heap := absHeap (cutBt (cutO3 P)) 215 {}
abbrev cutAnn : Option Value := some (.ref 6)
abbrev cutP1 : Pos := { line := 2, col := 0, endLine := 6, endCol := 24 }
abbrev cutP2 : Pos := { line := 7, col := 0, endLine := 8, endCol := 8 }
abbrev cutP3 : Pos := { line := 179, col := 0, endLine := 205, endCol := 76 }
theorem boot_e : opening cutProg = plainProg cutProg.main.scope.names := by kernel_rfl
theorem boot_f : ∀ s, fenceModules? cutProg s = some s := fun s => by kernel_rfl
theorem boot_s : ∀ w : World, ((boot_heap w.params).isNs mainGlobals && (Array.mk [] : Array GenState).size == 0, (boot_heap w.params).objs.size, (boot_heap w.params).nsMap mainGlobals "__annotations__") = (true, 11, cutAnn) := fun w => by kernel_rfl
/- The library's own twins of segRunT and treeTable stand in brackets below: they make the three checks lighter. -/
theorem cut_a (w : World) (os : OsState) : topGo treeTable cutProg w 11 cutAnn 12 ⟨boot_heap w.params, #[], boot_drawn, boot_toks, os⟩ (topStub cutProg) = some ((cutT cutOa 15 187 w os).abs, ⟨denote treeTable cutCode, cutCode, cutPos, [topFrame cutPos]⟩) := by kernel_rfl
theorem cut_b (w : World) (os : OsState) : segRun treeTable cutProg w 11 cutAnn 1 1 (cutT cutOa 15 187 w os).abs (blockOf cutBody cutEnv cutCode cutPos [topFrame cutPos]) = some (.next, (cutT cutOa 15 187 w os).abs, cutCode, cutPos) := by kernel_rfl
theorem cut_1 (w : World) (os : OsState) : segRunT treeTable cutProg w 11 cutAnn 1 300 (cutT cutOa 15 187 w os) (piecesOf (cutBody.take 2) cutEnv cutCode cutPos [topFrame cutPos]) = some (.next, cutT cutO1 35 218 w os, cutCode, cutP1) := by
  try rw [PySem.W.Fast.te10110043849684766642, PySem.W.Fast.te14364793385576792824]
  kernel_rfl
theorem cut_2 (w : World) (os : OsState) : segRunT treeTable cutProg w 11 cutAnn 1 300 (cutT cutO1 35 218 w os) (piecesOf ((cutBody.drop 2).take 1) cutEnv cutCode cutP1 [topFrame cutPos]) = some (.next, cutT cutO2 47 234 w os, cutCode, cutP2) := by
  try rw [PySem.W.Fast.te10110043849684766642, PySem.W.Fast.te14364793385576792824]
  kernel_rfl
theorem cut_3 (w : World) (os : OsState) : segRunT treeTable cutProg w 11 cutAnn 1 900 (cutT cutO2 47 234 w os) (piecesOf (cutBody.drop 3) cutEnv cutCode cutP2 [topFrame cutPos]) = some (.next, cutT cutO3 215 504 w os, cutCode, cutP3) := by
  try rw [PySem.W.Fast.te10110043849684766642, PySem.W.Fast.te14364793385576792824]
  kernel_rfl
theorem cut_f (w : World) (os : OsState) : topRun treeTable cutProg w 11 cutAnn 5 (cutT cutO3 215 504 w os).abs ⟨doneF .next, cutCode, cutP3, [topFrame cutPos]⟩ = some ⟨cutH w.params, Array.mk [], boot_drawn, 504, os⟩ := by kernel_rfl
theorem cut_l : cutBody = cutBody.take 2 ++ ((cutBody.drop 2).take 1 ++ (cutBody.drop 3 ++ [])) := by kernel_rfl
theorem cut_run (w : World) (os : OsState) : topRun treeTable cutProg w 11 cutAnn (12 + (1 + (300 + (300 + (900 + 5))))) ⟨boot_heap w.params, #[], boot_drawn, boot_toks, os⟩ (topStub cutProg) = some ⟨cutH w.params, Array.mk [], boot_drawn, 504, os⟩ := by
  refine go_top (cut_a w os) (piece_block (cut_b w os) ?_)
  have h := piece_app (segRun_of (cut_1 w os)) (piece_app (segRun_of (cut_2 w os)) (piece_app (segRun_of (cut_3 w os)) (piece_nil (cut_f w os))))
  rw [← cut_l] at h
  exact h
theorem cut_k (w : World) : (staticsOk (importedModules cutProg.main.body) (boot_heap w.params) (cutH w.params) && namesBound cutProg (cutH w.params) && laidKept (boot_heap w.params) (cutH w.params)) = true := by kernel_rfl
theorem left_of_cuts {q : Program} {loose : List Str} {Xt : Shared → Bool} {α : Type} {Yf : Shared → α} {Ya : World → α} {N : Nat} {g0 : Bool} (le : Nat.ble (12 + (1 + (300 + (300 + (900 + 5))))) N = true)
    (looks : ∀ w : World, (fun os => (openSeen q loose (importedModules cutProg.main.body) Xt g0 ⟨cutH w.params, Array.mk [], boot_drawn, 504, os⟩, Yf ⟨cutH w.params, Array.mk [], boot_drawn, 504, os⟩)) = fun _ => (openGood q loose, Ya w)) : LeftO cutProg q loose Xt Yf Ya N g0 := by
  have b := boot_open (p := cutProg) (N := N) boot_e (Nat.ble_eq_true_of_le (Nat.le_trans (by decide) (Nat.le_of_ble_eq_true le))) boot_f
  refine LeftO.of_pieces (p := cutProg) (H₀ := boot_heap) (H₁ := cutH) (gs₀ := Array.mk []) (gs₁ := Array.mk []) (d₀ := boot_drawn) (d₁ := boot_drawn) (k₀ := boot_toks) (k₁ := 504) (m₀ := 11) (ann := cutAnn) (M := 12 + (1 + (300 + (300 + (900 + 5))))) b boot_s cut_run le (fun w => funext fun os => ?_)
  have k := cut_k w
  simp only [Bool.and_eq_true] at k
  have l := congrFun (looks w) os
  refine Prod.ext ?_ l
  show (_ && _ && gensDone _ && _) = true
  rw [k.1.1, k.1.2, k.2]
  rfl
/- The looks at the law's text, each a check of its own: the library's road makes a twin of the text, which is stored (3 MB of the compiled file). The words in brackets are the library's own twins (of noRoadLSs, namesResolve, namesMeet, noClassBlock, builtinNamed). -/
theorem law_said : OpenLaw.wellSaid PySem.Challenge.rw_no0229_01 = true := by
  unfold OpenLaw.wellSaid OpenRow.wellSaid OpenRow.partSaid looksOpen
  repeat' (with_reducible refine look_both ?_ ?_)
  all_goals (try rw [PySem.W.Fast.te8326940854005059898]); (try rw [PySem.W.Fast.te8377067652309620493]); (try rw [PySem.W.Fast.te17119622794617984870]); (try rw [PySem.W.Fast.te8179353310426384613]); (try rw [PySem.W.Fast.named_eq]); decide +kernel
local macro_rules | `(tactic| o_law) => `(tactic| refine holds_law Mine.law_said fun said => ?_)
/- The top by the pieces above: the library's road by pieces stores twins of every statement (14 MB of the compiled file). -/
local macro_rules | `(tactic| refine $f:ident ($n1:ident := $q) ($n2:ident := $l) ($n3:ident := $x) ($n4:ident := $y) ($n5:ident := $a) ($n6:ident := $b) ($n7:ident := $c) ($n8:ident := $n) ?$h $as*) => `(tactic| refine $f ($n1:ident := $q) ($n2:ident := $l) ($n3:ident := $x) ($n4:ident := $y) ($n5:ident := $a) ($n6:ident := $b) ($n7:ident := $c) ($n8:ident := $n) (Mine.left_of_cuts rfl ?$h) $as*)
set_option maxHeartbeats 8000000 in
open_top hd for PySem.Challenge.rw_no0229_01
end
end Mine

local macro_rules | `(tactic| walk_at $s:str) => `(tactic| k_extra $s)

namespace Mine

/-- how many decimal digits; 0 has none -/
def ndn (n : Nat) : Nat := if h : n = 0 then 0 else ndn (n / 10) + 1
termination_by n
decreasing_by omega

theorem ndn_zero : ndn 0 = 0 := by unfold ndn; simp
theorem ndn_pos {n : Nat} (h : 0 < n) : ndn n = ndn (n / 10) + 1 := by
  rw [ndn, dif_neg (by omega)]

theorem ndn_lt (n : Nat) : n < 10 ^ ndn n := by
  induction n using Nat.strongRecOn with
  | _ n ih =>
    by_cases h : n = 0
    · subst h; rw [ndn_zero]; decide
    · rw [ndn_pos (by omega), Nat.pow_succ]
      have := ih (n / 10) (by omega)
      omega
theorem ndn_le {n : Nat} (h : 0 < n) : 10 ^ (ndn n - 1) ≤ n := by
  induction n using Nat.strongRecOn with
  | _ n ih =>
    rw [ndn_pos h, Nat.add_sub_cancel]
    by_cases h1 : n / 10 = 0
    · rw [h1, ndn_zero]; simp; omega
    · have := ih (n / 10) (by omega) (by omega)
      have h2 : ndn (n / 10) = (ndn (n / 10) - 1) + 1 := by
        rw [ndn_pos (n := n / 10) (by omega)]; omega
      rw [h2, Nat.pow_succ]
      omega
theorem ndn_one_le {n : Nat} (h : 0 < n) : 1 ≤ ndn n := by rw [ndn_pos h]; omega

theorem pow_mono {i j : Nat} (h : i ≤ j) : 10 ^ i ≤ 10 ^ j := Nat.pow_le_pow_right (by decide) h
theorem lt_of_pow {i j : Nat} (h : 10 ^ i < 10 ^ j) : i < j := (Nat.pow_lt_pow_iff_right (by decide)).mp h
theorem p10_pos (k : Nat) : 0 < 10 ^ k := Nat.pow_pos (by decide)

theorem ndn_eq {n k : Nat} (h1 : 10 ^ k ≤ n) (h2 : n < 10 ^ (k + 1)) : ndn n = k + 1 := by
  have hn : 0 < n := Nat.lt_of_lt_of_le (p10_pos k) h1
  have a := ndn_lt n
  have b := ndn_le hn
  have c := lt_of_pow (Nat.lt_of_le_of_lt h1 a)
  have d := lt_of_pow (Nat.lt_of_le_of_lt b h2)
  omega
theorem ndn_mul_pow {n : Nat} (h : 0 < n) (j : Nat) : ndn (n * 10 ^ j) = ndn n + j := by
  have e : ndn n + j = (ndn n - 1 + j) + 1 := by have := ndn_one_le h; omega
  rw [e]
  refine ndn_eq ?_ ?_
  · rw [Nat.pow_add]; exact Nat.mul_le_mul_right _ (ndn_le h)
  · rw [← e, Nat.pow_add]; exact Nat.mul_lt_mul_of_pos_right (ndn_lt n) (p10_pos j)
theorem ndn_mono {a b : Nat} (h : a ≤ b) : ndn a ≤ ndn b := by
  by_cases h0 : a = 0
  · subst h0; rw [ndn_zero]; omega
  · have h1 := ndn_le (n := a) (by omega)
    have h2 := ndn_lt b
    have := lt_of_pow (Nat.lt_of_le_of_lt (Nat.le_trans h1 h) h2)
    omega
theorem ndn_le_of_lt {n k : Nat} (h : n < 10 ^ k) : ndn n ≤ k := by
  by_cases h0 : n = 0
  · subst h0; rw [ndn_zero]; omega
  · have h1 := ndn_le (n := n) (by omega)
    have := lt_of_pow (Nat.lt_of_le_of_lt h1 h)
    omega
theorem ndn_billion {n : Nat} (h : 1000000000 ≤ n) : ndn n = ndn (n / 1000000000) + 9 := by
  have step : ∀ k : Nat, 0 < k → ndn k = ndn (k / 10) + 1 := fun k => ndn_pos
  rw [step n (by omega), step (n / 10) (by omega), step (n / 10 / 10) (by omega), step (n / 10 / 10 / 10) (by omega), step (n / 10 / 10 / 10 / 10) (by omega),
    step (n / 10 / 10 / 10 / 10 / 10) (by omega), step (n / 10 / 10 / 10 / 10 / 10 / 10) (by omega), step (n / 10 / 10 / 10 / 10 / 10 / 10 / 10) (by omega), step (n / 10 / 10 / 10 / 10 / 10 / 10 / 10 / 10) (by omega)]
  have : n / 10 / 10 / 10 / 10 / 10 / 10 / 10 / 10 / 10 = n / 1000000000 := by omega
  rw [this]

/-- count_digits -/
def cd (n : Int) : Int := (ndn n.natAbs : Nat)
theorem cd_zero : cd 0 = 0 := by simp [cd, ndn_zero]
theorem cd_nonneg (n : Int) : 0 ≤ cd n := by unfold cd; omega
theorem cd_pos {n : Int} (h : n ≠ 0) : 1 ≤ cd n := by unfold cd; have := ndn_one_le (n := n.natAbs) (by omega); omega
theorem cd_neg (n : Int) : cd (-n) = cd n := by unfold cd; rw [Int.natAbs_neg]
theorem cd_turn1 {a b c : Int} (h0 : 0 ≤ a) (h : 1000000000 ≤ a) (hc : cd a + b = c) : 0 ≤ a.fdiv 1000000000 ∧ cd (a.fdiv 1000000000) + (b + 9) = c ∧ (a.fdiv 1000000000).toNat < a.toNat := by
  rw [Int.fdiv_eq_ediv_of_nonneg _ (by decide)]
  unfold cd at *
  have e : (a / 1000000000).natAbs = a.natAbs / 1000000000 := by omega
  have := ndn_billion (n := a.natAbs) (by omega)
  rw [e]
  omega
theorem cd_turn2 {a b c : Int} (h0 : 0 ≤ a) (h : 0 < a) (hc : cd a + b = c) : 0 ≤ a.fdiv 10 ∧ cd (a.fdiv 10) + (b + 1) = c ∧ (a.fdiv 10).toNat < a.toNat := by
  rw [Int.fdiv_eq_ediv_of_nonneg _ (by decide)]
  unfold cd at *
  have e : (a / 10).natAbs = a.natAbs / 10 := by omega
  have := ndn_pos (n := a.natAbs) (by omega)
  rw [e]
  omega

/-- strip_zeros -/
def strip (m e : Int) : Int × Int := if h0 : m = 0 then (0, 0) else if h : m % 10 = 0 then strip (m / 10) (e + 1) else (m, e)
termination_by m.natAbs
decreasing_by omega
theorem strip_zero (e : Int) : strip 0 e = (0, 0) := by unfold strip; simp
theorem strip_step {m : Int} (e : Int) (h0 : m ≠ 0) (h : m % 10 = 0) : strip m e = strip (m / 10) (e + 1) := by
  rw [strip, dif_neg h0, dif_pos h]
theorem strip_done {m : Int} (e : Int) (h0 : m ≠ 0) (h : m % 10 ≠ 0) : strip m e = (m, e) := by
  rw [strip, dif_neg h0, dif_neg h]
theorem strip_turn {m e : Int} {c : Int × Int} (h0 : m ≠ 0) (h : m.fmod 10 = 0) (hc : strip m e = c) : m.fdiv 10 ≠ 0 ∧ strip (m.fdiv 10) (e + 1) = c ∧ (m.fdiv 10).natAbs < m.natAbs := by
  rw [Int.fmod_eq_emod_of_nonneg _ (by decide)] at h
  rw [Int.fdiv_eq_ediv_of_nonneg _ (by decide)]
  refine ⟨by omega, ?_, by omega⟩
  rw [← hc, strip_step e h0 h]
theorem strip_end {m e : Int} {c : Int × Int} (h0 : m ≠ 0) (h : m.fmod 10 ≠ 0) (hc : strip m e = c) : c = (m, e) := by
  rw [Int.fmod_eq_emod_of_nonneg _ (by decide)] at h
  rw [← hc, strip_done e h0 h]
theorem strip_ne {m : Int} (e : Int) (h0 : m ≠ 0) : (strip m e).1 ≠ 0 := by
  suffices h : ∀ k : Nat, ∀ m e : Int, m.natAbs ≤ k → m ≠ 0 → (strip m e).1 ≠ 0 from h _ m e (Nat.le_refl _) h0
  intro k
  induction k with
  | zero => intro m e h1 h2; omega
  | succ k ih =>
    intro m e h1 h2
    by_cases h : m % 10 = 0
    · rw [strip_step e h2 h]; exact ih _ _ (by omega) (by omega)
    · rw [strip_done e h2 h]; exact h2
end Mine
namespace Mine
/-- a / b to the nearest, half to even -/
def rne (a b : Nat) : Nat := a / b + (if 2 * (a % b) > b ∨ (2 * (a % b) = b ∧ (a / b) % 2 = 1) then 1 else 0)
/-- round_digits -/
def rdig (m e digits : Int) : Int × Int :=
  if cd m - digits > 0 then
    strip (if m > 0 then (rne m.natAbs (10 ^ (cd m - digits).toNat) : Nat) else -((rne m.natAbs (10 ^ (cd m - digits).toNat) : Nat) : Int)) (e + (cd m - digits))
  else strip m e
/-- round_real; none is the fault -/
def rreal (m e digits top : Int) : Option (Int × Int) :=
  if (rdig m e digits).1 = 0 ∨ (rdig m e digits).2 + cd (rdig m e digits).1 - 1 < -top then some (0, 0)
  else if (rdig m e digits).2 + cd (rdig m e digits).1 - 1 > top then none
  else some (rdig m e digits)
end Mine


namespace Mine
theorem scale_le {A B p q p' q' : Nat} (h : p + q' = p' + q) : A * 10 ^ p ≤ B * 10 ^ q ↔ A * 10 ^ p' ≤ B * 10 ^ q' := by
  have key : ∀ {p q k : Nat}, A * 10 ^ p ≤ B * 10 ^ q ↔ A * 10 ^ (p + k) ≤ B * 10 ^ (q + k) := by
    intro p q k
    rw [Nat.pow_add, Nat.pow_add, ← Nat.mul_assoc, ← Nat.mul_assoc]
    exact ⟨fun h => Nat.mul_le_mul_right _ h, fun h => Nat.le_of_mul_le_mul_right h (p10_pos k)⟩
  rcases Nat.le_total p p' with hp | hp
  · obtain ⟨k, rfl⟩ := Nat.exists_eq_add_of_le hp
    obtain rfl : q' = q + k := by omega
    exact key
  · obtain ⟨k, rfl⟩ := Nat.exists_eq_add_of_le hp
    obtain rfl : q = q' + k := by omega
    exact key.symm
theorem scale_lt {A B p q p' q' : Nat} (h : p + q' = p' + q) : A * 10 ^ p < B * 10 ^ q ↔ A * 10 ^ p' < B * 10 ^ q' := by
  have := scale_le (A := B) (B := A) (p := q) (q := p) (p' := q') (q' := p') (by omega)
  rw [← Nat.not_le, ← Nat.not_le, this]
theorem tn (u : Int) : ((u.toNat : Nat) : Int) = ((-u).toNat : Nat) + u := by omega
/-- both halves of two exponents whose sum is k -/
theorem tn_sum {u v : Int} {k : Nat} (h : u + v = k) : u.toNat + v.toNat = (-u).toNat + (-v).toNat + k := by
  have h1 := tn u
  have h2 := tn v
  generalize u.toNat = a at *
  generalize v.toNat = b at *
  generalize (-u).toNat = c at *
  generalize (-v).toNat = e at *
  omega
theorem tn_two {u v : Int} {p q : Nat} (h : u + p = v + q) : u.toNat + p + (-v).toNat = v.toNat + ((-u).toNat + q) := by
  have h1 := tn u
  have h2 := tn v
  generalize u.toNat = a at *
  generalize v.toNat = b at *
  generalize (-u).toNat = c at *
  generalize (-v).toNat = e at *
  omega
/-- 10 ** l <= A / B < 10 ** (l + 1) -/
def isLead (A B : Nat) (l : Int) : Prop := B * 10 ^ l.toNat ≤ A * 10 ^ (-l).toNat ∧ A * 10 ^ (-(l + 1)).toNat < B * 10 ^ (l + 1).toNat
theorem lead_hi {A B : Nat} (hA : 0 < A) (hB : 0 < B) {l0 : Int} (hl : l0 = (ndn A : Int) - ndn B) (h : ¬ A * 10 ^ (-l0).toNat < B * 10 ^ l0.toNat) : isLead A B l0 := by
  refine ⟨Nat.not_lt.mp h, ?_⟩
  have h1 := ndn_lt A
  have h2 := ndn_le hB
  have h3 := ndn_one_le hB
  calc A * 10 ^ (-(l0 + 1)).toNat < 10 ^ ndn A * 10 ^ (-(l0 + 1)).toNat := Nat.mul_lt_mul_of_pos_right h1 (p10_pos _)
    _ = 10 ^ (ndn B - 1) * 10 ^ (l0 + 1).toNat := by rw [← Nat.pow_add, ← Nat.pow_add]; congr 1; omega
    _ ≤ B * 10 ^ (l0 + 1).toNat := Nat.mul_le_mul_right _ h2
theorem lead_lo {A B : Nat} (hA : 0 < A) (hB : 0 < B) {l0 : Int} (hl : l0 = (ndn A : Int) - ndn B) (h : A * 10 ^ (-l0).toNat < B * 10 ^ l0.toNat) : isLead A B (l0 - 1) := by
  have h1 := ndn_lt B
  have h2 := ndn_le hA
  have h3 := ndn_one_le hA
  refine ⟨?_, ?_⟩
  · calc B * 10 ^ (l0 - 1).toNat ≤ 10 ^ ndn B * 10 ^ (l0 - 1).toNat := Nat.mul_le_mul_right _ (Nat.le_of_lt h1)
      _ = 10 ^ (ndn A - 1) * 10 ^ (-(l0 - 1)).toNat := by rw [← Nat.pow_add, ← Nat.pow_add]; congr 1; omega
      _ ≤ A * 10 ^ (-(l0 - 1)).toNat := Nat.mul_le_mul_right _ h2
  · rw [show l0 - 1 + 1 = l0 by omega]; exact h
theorem lead_uniq {A B : Nat} {l l' : Int} (hB : 0 < B) (h : isLead A B l) (h' : isLead A B l') : l = l' := by
  suffices H : ∀ {l l' : Int}, isLead A B l → isLead A B l' → ¬ l < l' from by
    have := H h h'; have := H h' h; omega
  intro l l' h h' hlt
  have h1 := h.2
  have h2 := h'.1
  obtain ⟨k, hk⟩ : ∃ k : Nat, l' = l + 1 + k := ⟨(l' - (l + 1)).toNat, by omega⟩
  have h3 : B * 10 ^ ((l + 1).toNat + k) ≤ A * 10 ^ (-(l + 1)).toNat := (scale_le (by
    have := tn_sum (u := l') (v := -(l + 1)) (k := k) (by omega)
    rw [Int.neg_neg] at this
    rw [this, Nat.add_assoc]; exact Nat.add_comm _ _)).mp h2
  have h4 : B * 10 ^ (l + 1).toNat ≤ B * 10 ^ ((l + 1).toNat + k) := Nat.mul_le_mul_left _ (Nat.pow_le_pow_right (by decide) (Nat.le_add_right _ _))
  exact Nat.lt_irrefl _ (Nat.lt_of_lt_of_le h1 (Nat.le_trans h4 h3))
/-- the row of digits and what it lies between -/
theorem row_bounds {A B : Nat} {l : Int} {d : Nat} (hd : 1 ≤ d) (h : isLead A B l) :
    (B * 10 ^ (-((d : Int) - 1 - l)).toNat) * 10 ^ (d - 1) ≤ A * 10 ^ ((d : Int) - 1 - l).toNat ∧ A * 10 ^ ((d : Int) - 1 - l).toNat < (B * 10 ^ (-((d : Int) - 1 - l)).toNat) * 10 ^ d := by
  refine ⟨?_, ?_⟩
  · rw [Nat.mul_assoc, ← Nat.pow_add]
    exact (scale_le (by have := tn_sum (u := l) (v := (d : Int) - 1 - l) (k := d - 1) (by omega); omega)).mp h.1
  · rw [Nat.mul_assoc, ← Nat.pow_add]
    exact (scale_lt (by have := tn_sum (u := l + 1) (v := (d : Int) - 1 - l) (k := d) (by omega); omega)).mp h.2
end Mine


namespace Mine
/-- the law's own rounding -/
def lround (a b d tp ten : Int) : Option (Int × Int) :=
  if a = 0 then some (0, 0)
  else
    let A : Int := (a.natAbs : Nat)
    let l0 := cd A - cd b
    let l := if A * 10 ^ (max 0 (-l0)).toNat < b * 10 ^ (max 0 l0).toNat then l0 - 1 else l0
    let row : Int := (rne (a.natAbs * 10 ^ (max 0 (d - 1 - l)).toNat) (b.natAbs * 10 ^ (max 0 (-(d - 1 - l))).toNat) : Nat)
    let l' := l + (cd row - d + ten)
    if l' > tp then none
    else if l' < -tp then some (0, 0)
    else some ((if a > 0 then 1 else -1) * (strip row 0).1, l' - cd (strip row 0).1 + 1)
end Mine


namespace Mine
theorem rne_mul (a b : Nat) {c : Nat} (hc : 0 < c) : rne (a * c) (b * c) = rne a b := by
  have h1 : a * c / (b * c) = a / b := Nat.mul_div_mul_right a b hc
  have h2 : a * c % (b * c) = a % b * c := Nat.mul_mod_mul_right c a b
  have h3 : (2 * (a % b * c) > b * c) ↔ (2 * (a % b) > b) := by
    rw [← Nat.mul_assoc]; exact Nat.mul_lt_mul_right hc
  have h4 : (2 * (a % b * c) = b * c) ↔ (2 * (a % b) = b) := by
    rw [← Nat.mul_assoc]; exact Nat.mul_left_inj (by omega)
  unfold rne
  rw [h1, h2]
  simp only [h3, h4]
theorem rne_cross {a b a' b' : Nat} (hb : 0 < b) (hb' : 0 < b') (h : a * b' = a' * b) : rne a b = rne a' b' := by
  rw [← rne_mul a b hb', h, Nat.mul_comm b b', rne_mul a' b' hb]
theorem rne_one (a : Nat) : rne a 1 = a := by
  unfold rne
  have h1 : a % 1 = 0 := Nat.mod_one a
  rw [h1, Nat.div_one, if_neg (by omega)]; rfl
theorem strip_of {a : Int} (ha : a % 10 ≠ 0) (j : Nat) (e : Int) : strip (a * 10 ^ j) e = (a, e + j) := by
  induction j generalizing e with
  | zero => rw [Int.pow_zero, Int.mul_one, strip_done e (by omega) ha]; simp
  | succ j ih =>
    have e1 : a * 10 ^ (j + 1) = a * 10 ^ j * 10 := by rw [Int.pow_succ, Int.mul_assoc]
    have h0 : a * 10 ^ j ≠ 0 := Int.mul_ne_zero (by omega) (Int.pow_ne_zero (by decide))
    rw [e1, strip_step e (by omega) (by omega), Int.mul_ediv_cancel _ (by decide), ih]
    ext
    · rfl
    · show e + 1 + (j : Int) = e + ((j + 1 : Nat) : Int); omega
theorem strip_ex {n : Int} (h : n ≠ 0) : ∃ (a : Int) (j : Nat), n = a * 10 ^ j ∧ a % 10 ≠ 0 := by
  suffices H : ∀ k : Nat, ∀ n : Int, n.natAbs ≤ k → n ≠ 0 → ∃ (a : Int) (j : Nat), n = a * 10 ^ j ∧ a % 10 ≠ 0 from H _ n (Nat.le_refl _) h
  intro k
  induction k with
  | zero => intro n h1 h2; omega
  | succ k ih =>
    intro n h1 h2
    by_cases h3 : n % 10 = 0
    · obtain ⟨a, j, h4, h5⟩ := ih (n / 10) (by omega) (by omega)
      refine ⟨a, j + 1, ?_, h5⟩
      rw [Int.pow_succ, ← Int.mul_assoc, ← h4]; omega
    · exact ⟨n, 0, by rw [Int.pow_zero, Int.mul_one], h3⟩
theorem cd_mul_pow {a : Int} (h : a ≠ 0) (j : Nat) : cd (a * 10 ^ j) = cd a + j := by
  unfold cd
  rw [Int.natAbs_mul, Int.natAbs_pow]
  have := ndn_mul_pow (n := a.natAbs) (by omega) j
  show ((ndn (a.natAbs * 10 ^ j) : Nat) : Int) = _
  omega
/-- strip in one row -/
theorem strip_eq {n : Int} (h : n ≠ 0) (e : Int) : strip n e = ((strip n 0).1, e + cd n - cd (strip n 0).1) := by
  obtain ⟨a, j, rfl, ha⟩ := strip_ex h
  rw [strip_of ha, strip_of ha, cd_mul_pow (by omega)]
  ext
  · rfl
  · show e + (j : Int) = e + (cd a + j) - cd a; omega
theorem strip_pow {n : Int} (h : n ≠ 0) (i : Nat) (e : Int) : (strip (n * 10 ^ i) e).1 = (strip n 0).1 := by
  obtain ⟨a, j, rfl, ha⟩ := strip_ex h
  rw [Int.mul_assoc, ← Int.pow_add, strip_of ha, strip_of ha]
theorem strip_minus {n : Int} (h : n ≠ 0) (e : Int) : strip (-n) e = (-(strip n 0).1, e + cd n - cd (strip n 0).1) := by
  obtain ⟨a, j, rfl, ha⟩ := strip_ex h
  rw [← Int.neg_mul, strip_of (by omega), strip_of ha, cd_mul_pow (by omega)]
  ext
  · rfl
  · show e + (j : Int) = e + (cd a + j) - cd a; omega
/-- the last step of the rounding -/
def fin (pos : Prop) [Decidable pos] (r l d tp : Int) : Option (Int × Int) :=
  if l + (cd r - d) > tp then none
  else if l + (cd r - d) < -tp then some (0, 0)
  else some ((if pos then 1 else -1) * (strip r 0).1, l + (cd r - d) - cd (strip r 0).1 + 1)
def rowN (A B : Nat) (d l : Int) : Nat := rne (A * 10 ^ (d - 1 - l).toNat) (B * 10 ^ (-(d - 1 - l)).toNat)
theorem toNat_max0 (x : Int) : (max 0 x).toNat = x.toNat := by omega
theorem isLead_if {a b : Int} (ha : a ≠ 0) (hb : 0 < b) :
    isLead a.natAbs b.natAbs (if ((a.natAbs : Nat) : Int) * 10 ^ (max 0 (-(cd ((a.natAbs : Nat) : Int) - cd b))).toNat < b * 10 ^ (max 0 (cd ((a.natAbs : Nat) : Int) - cd b)).toNat then cd ((a.natAbs : Nat) : Int) - cd b - 1 else cd ((a.natAbs : Nat) : Int) - cd b) := by
  have hl : cd ((a.natAbs : Nat) : Int) - cd b = (ndn a.natAbs : Int) - ndn b.natAbs := by unfold cd; rw [Int.natAbs_natCast]
  have hc : ∀ x y : Int, (((a.natAbs : Nat) : Int) * 10 ^ (max 0 x).toNat < b * 10 ^ (max 0 y).toNat) ↔ a.natAbs * 10 ^ x.toNat < b.natAbs * 10 ^ y.toNat := by
    intro x y
    have e : b = ((b.natAbs : Nat) : Int) := by omega
    rw [toNat_max0, toNat_max0, e, Int.natAbs_natCast, ← Int.ofNat_lt, Int.natCast_mul, Int.natCast_mul, Int.natCast_pow, Int.natCast_pow]; rfl
  split
  · rename_i h
    exact lead_lo (by omega) (by omega) hl ((hc _ _).mp h)
  · rename_i h
    exact lead_hi (by omega) (by omega) hl fun h' => h ((hc _ _).mpr h')
theorem lround_fin {a b d tp ten l : Int} (ha : a ≠ 0) (hb : 0 < b) (hl : isLead a.natAbs b.natAbs l) :
    lround a b d tp ten = fin (a > 0) (rowN a.natAbs b.natAbs d l : Nat) (l + ten) d tp := by
  have h1 := isLead_if ha hb
  have h2 := lead_uniq (by omega) h1 hl
  unfold lround
  rw [if_neg ha]
  dsimp only
  rw [h2, toNat_max0, toNat_max0]
  unfold fin rowN
  have e : ∀ r : Int, l + (cd r - d + ten) = l + ten + (cd r - d) := fun r => by omega
  rw [e]
theorem isLead_one {m : Nat} (h : 0 < m) : isLead m 1 ((ndn m : Int) - 1) := by
  have h1 := ndn_lt m
  have h2 := ndn_le h
  have h3 := ndn_one_le h
  unfold isLead
  rw [show (-((ndn m : Int) - 1)).toNat = 0 by omega, show (-((ndn m : Int) - 1 + 1)).toNat = 0 by omega, show ((ndn m : Int) - 1).toNat = ndn m - 1 by omega, show ((ndn m : Int) - 1 + 1).toNat = ndn m by omega]
  omega
theorem rne_pos1 {A B : Nat} (h : B ≤ A) (hB : 0 < B) : 0 < rne A B := by
  have : 1 ≤ A / B := (Nat.le_div_iff_mul_le hB).mpr (by omega)
  unfold rne; omega
theorem rowN_pos {A B : Nat} {d l : Int} (hB : 0 < B) (hd : 1 ≤ d) (h : isLead A B l) : 0 < rowN A B d l := by
  obtain ⟨k, rfl⟩ := Int.eq_ofNat_of_zero_le (show (0 : Int) ≤ d by omega)
  obtain ⟨h1, -⟩ := row_bounds (d := k) (by omega) h
  have hB' : 0 < B * 10 ^ (-((k : Int) - 1 - l)).toNat := Nat.mul_pos hB (p10_pos _)
  refine rne_pos1 (Nat.le_trans ?_ h1) hB'
  exact Nat.le_mul_of_pos_right _ (p10_pos _)
end Mine


namespace Mine
theorem lround_zero (b d tp ten : Int) : lround 0 b d tp ten = some (0, 0) := by unfold lround; rw [if_pos rfl]
theorem rdig_zero {d : Int} (hd : 0 ≤ d) (e : Int) : rdig 0 e d = (0, 0) := by
  unfold rdig; rw [if_neg (by rw [cd_zero]; omega), strip_zero]
theorem rreal_zero {d : Int} (hd : 0 ≤ d) (e tp : Int) : rreal 0 e d tp = some (0, 0) := by
  unfold rreal; rw [if_pos (Or.inl (by rw [rdig_zero hd]))]
theorem sgn_strip {m r : Int} (hr : 0 < r) (e : Int) :
    strip (if m > 0 then r else -r) e = ((if m > 0 then 1 else -1) * (strip r 0).1, e + cd r - cd (strip r 0).1) := by
  split
  · rw [strip_eq (by omega) e, Int.one_mul]
  · rw [strip_minus (by omega) e, Int.neg_mul, Int.one_mul]
/-- round_digits, a row and an exponent -/
theorem rdig_row {m e d : Int} (hm : m ≠ 0) (hd : 1 ≤ d) :
    rdig m e d = ((if m > 0 then 1 else -1) * (strip (rowN m.natAbs 1 d (cd m - 1) : Nat) 0).1, e + cd m - d + cd (rowN m.natAbs 1 d (cd m - 1) : Nat) - cd (strip (rowN m.natAbs 1 d (cd m - 1) : Nat) 0).1) := by
  have hpos : 0 < m.natAbs := by omega
  have hl : isLead m.natAbs 1 (cd m - 1) := isLead_one hpos
  have hr : (0 : Int) < (rowN m.natAbs 1 d (cd m - 1) : Nat) := by have := rowN_pos (by decide) hd hl; omega
  unfold rdig
  split
  · rename_i h
    have e1 : rne m.natAbs (10 ^ (cd m - d).toNat) = rowN m.natAbs 1 d (cd m - 1) := by
      unfold rowN
      rw [show (d - 1 - (cd m - 1)).toNat = 0 by omega, show (-(d - 1 - (cd m - 1))).toNat = (cd m - d).toNat by omega, Nat.pow_zero, Nat.mul_one, Nat.one_mul]
    rw [e1, sgn_strip hr]
    ext
    · rfl
    · show e + (cd m - d) + _ - _ = _; omega
  · rename_i h
    have e1 : rowN m.natAbs 1 d (cd m - 1) = m.natAbs * 10 ^ (d - cd m).toNat := by
      unfold rowN
      rw [show (d - 1 - (cd m - 1)).toNat = (d - cd m).toNat by omega, show (-(d - 1 - (cd m - 1))).toNat = 0 by omega, Nat.pow_zero, Nat.mul_one, rne_one]
    have e2 : ((rowN m.natAbs 1 d (cd m - 1) : Nat) : Int) = (m.natAbs : Int) * 10 ^ (d - cd m).toNat := by rw [e1, Int.natCast_mul, Int.natCast_pow]; rfl
    have e3 : cd ((m.natAbs : Nat) : Int) = cd m := by unfold cd; rw [Int.natAbs_natCast]
    rw [e2, cd_mul_pow (by omega), strip_pow (by omega), e3]
    have e4 := sgn_strip (m := m) (r := (m.natAbs : Int)) (by omega) e
    rw [show (if m > 0 then (m.natAbs : Int) else -(m.natAbs : Int)) = m by split <;> omega, e3] at e4
    rw [e4]
    ext
    · rfl
    · show e + cd m - _ = e + cd m - d + (cd m + _) - _; omega
theorem strip_cd_pos {r : Int} (hr : 0 < r) : (strip r 0).1 ≠ 0 := strip_ne 0 (by omega)
theorem cd_sgn (p : Prop) [Decidable p] (x : Int) : cd ((if p then 1 else -1) * x) = cd x := by
  split
  · rw [Int.one_mul]
  · rw [Int.neg_mul, Int.one_mul, cd_neg]
/-- round_real is the law's rounding -/
theorem rreal_lround (m e d : Int) {tp : Int} (hd : 1 ≤ d) (ht : 0 ≤ tp) : rreal m e d tp = lround m 1 d tp e := by
  by_cases hm : m = 0
  · rw [hm, lround_zero, rreal_zero (by omega)]
  have hpos : 0 < m.natAbs := by omega
  have hl : isLead m.natAbs (1 : Int).natAbs (cd m - 1) := isLead_one hpos
  have hr : (0 : Int) < (rowN m.natAbs 1 d (cd m - 1) : Nat) := by have := rowN_pos (by decide) hd hl; exact Int.ofNat_lt.mpr this
  rw [lround_fin hm (by decide) hl]
  unfold rreal fin
  rw [rdig_row hm hd]
  dsimp only
  rw [show (1 : Int).natAbs = 1 from rfl, cd_sgn]
  obtain ⟨r, er⟩ : ∃ r : Int, r = (rowN m.natAbs 1 d (cd m - 1) : Nat) := ⟨_, rfl⟩
  rw [← er] at hr ⊢
  have hs := strip_cd_pos hr
  have h0 : ¬ (if m > 0 then (1 : Int) else -1) * (strip r 0).1 = 0 := by
    apply Int.mul_ne_zero
    · split <;> decide
    · exact hs
  by_cases c1 : e + cd m - d + cd r - cd (strip r 0).1 + cd (strip r 0).1 - 1 < -tp
  · rw [if_pos (Or.inr c1)]
    rw [if_neg (show ¬ cd m - 1 + e + (cd r - d) > tp by omega), if_pos (show cd m - 1 + e + (cd r - d) < -tp by omega)]
  · rw [if_neg (by rintro (h | h) <;> contradiction)]
    by_cases c2 : e + cd m - d + cd r - cd (strip r 0).1 + cd (strip r 0).1 - 1 > tp
    · rw [if_pos c2, if_pos (show cd m - 1 + e + (cd r - d) > tp by omega)]
    · rw [if_neg c2, if_neg (show ¬ cd m - 1 + e + (cd r - d) > tp by omega), if_neg (show ¬ cd m - 1 + e + (cd r - d) < -tp by omega)]
      congr 2
      omega
/-- equal values are rounded alike -/
theorem isLead_scale {A B A' B' p q : Nat} {l : Int} (hB : 0 < B) (hB' : 0 < B') (h : A * B' * 10 ^ p = A' * B * 10 ^ q) (hl : isLead A B l) : isLead A' B' (l + p - q) := by
  obtain ⟨h1, h2⟩ := hl
  refine ⟨?_, ?_⟩
  · have k1 : B * (B' * 10 ^ l.toNat) * (10 ^ p) ≤ A * 10 ^ (-l).toNat * B' * (10 ^ p) := by
      rw [← Nat.mul_assoc, Nat.mul_right_comm B B']; exact Nat.mul_le_mul_right _ (Nat.mul_le_mul_right _ h1)
    have k2 : A * 10 ^ (-l).toNat * B' * (10 ^ p) = B * (A' * 10 ^ ((-l).toNat + q)) := by
      rw [Nat.pow_add]; grind
    rw [k2, Nat.mul_assoc B, Nat.mul_assoc B', ← Nat.pow_add] at k1
    exact (scale_le (tn_two (by omega))).mp (Nat.le_of_mul_le_mul_left k1 hB)
  · have k1 : A * 10 ^ (-(l + 1)).toNat * (B' * 10 ^ p) < B * 10 ^ (l + 1).toNat * (B' * 10 ^ p) :=
      Nat.mul_lt_mul_of_pos_right h2 (Nat.mul_pos hB' (p10_pos _))
    have k2 : A * 10 ^ (-(l + 1)).toNat * (B' * 10 ^ p) = B * (A' * 10 ^ ((-(l + 1)).toNat + q)) := by
      rw [Nat.pow_add]; grind
    have k3 : B * 10 ^ (l + 1).toNat * (B' * 10 ^ p) = B * (B' * 10 ^ ((l + 1).toNat + p)) := by
      rw [Nat.pow_add]; grind
    rw [k2, k3] at k1
    exact (scale_lt (by have := tn_two (u := l + 1) (v := l + p - q + 1) (p := p) (q := q) (by omega); omega)).mp (Nat.lt_of_mul_lt_mul_left k1)
theorem rowN_scale {A B A' B' p q : Nat} {d l : Int} (hB : 0 < B) (hB' : 0 < B') (h : A * B' * 10 ^ p = A' * B * 10 ^ q) : rowN A B d l = rowN A' B' d (l + p - q) := by
  unfold rowN
  apply rne_cross (Nat.mul_pos hB (p10_pos _)) (Nat.mul_pos hB' (p10_pos _))
  have e1 : A * 10 ^ (d - 1 - l).toNat * (B' * 10 ^ (-(d - 1 - (l + p - q))).toNat) = A * B' * 10 ^ ((d - 1 - l).toNat + (-(d - 1 - (l + p - q))).toNat) := by
    rw [Nat.pow_add]; grind
  have e2 : A' * 10 ^ (d - 1 - (l + p - q)).toNat * (B * 10 ^ (-(d - 1 - l)).toNat) = A' * B * 10 ^ ((d - 1 - (l + p - q)).toNat + (-(d - 1 - l)).toNat) := by
    rw [Nat.pow_add]; grind
  rw [e1, e2]
  rcases Nat.le_total p ((d - 1 - l).toNat + (-(d - 1 - (l + p - q))).toNat) with hp | hp
  · obtain ⟨k, hk⟩ := Nat.exists_eq_add_of_le hp
    rw [hk, Nat.pow_add, ← Nat.mul_assoc, h, Nat.mul_assoc, ← Nat.pow_add]
    congr 2
    have := tn_two (u := d - 1 - l) (v := d - 1 - (l + p - q)) (p := q) (q := p) (by omega)
    omega
  · obtain ⟨k, hk⟩ := Nat.exists_eq_add_of_le hp
    have hq : q = ((d - 1 - (l + p - q)).toNat + (-(d - 1 - l)).toNat) + k := by
      have := tn_two (u := d - 1 - l) (v := d - 1 - (l + p - q)) (p := q) (q := p) (by omega)
      omega
    refine Nat.eq_of_mul_eq_mul_right (p10_pos k) ?_
    rw [Nat.mul_assoc (A * B'), Nat.mul_assoc (A' * B), ← Nat.pow_add, ← Nat.pow_add, ← hk, ← hq, h]
theorem lround_scale {a b a' b' : Int} (d tp : Int) {ten ten' : Int} {p q : Nat} (hd : 1 ≤ d) (hb : 0 < b) (hb' : 0 < b') (h : a * b' * 10 ^ p = a' * b * 10 ^ q) (ht : ten' + q = ten + p) :
    lround a b d tp ten' = lround a' b' d tp ten := by
  have hp : (0 : Int) < 10 ^ p := Int.pow_pos (by decide)
  have hq : (0 : Int) < 10 ^ q := Int.pow_pos (by decide)
  by_cases ha : a = 0
  · have ha' : a' = 0 := by
      rw [ha, Int.zero_mul, Int.zero_mul] at h
      rcases Int.mul_eq_zero.mp h.symm with h | h
      · rcases Int.mul_eq_zero.mp h with h | h <;> omega
      · omega
    rw [ha, ha', lround_zero, lround_zero]
  · have ha' : a' ≠ 0 := by
      rintro rfl
      rw [Int.zero_mul, Int.zero_mul] at h
      rcases Int.mul_eq_zero.mp h with h | h
      · rcases Int.mul_eq_zero.mp h with h | h <;> omega
      · omega
    have hs : (a > 0) ↔ (a' > 0) := by
      have e : ∀ (u v : Int) (k : Int), 0 < v → 0 < k → (u > 0 ↔ u * v * k > 0) := by
        intro u v k hv hk
        constructor
        · intro h; exact Int.mul_pos (Int.mul_pos h hv) hk
        · intro h
          refine Int.not_le.mp fun h' => ?_
          have := Int.mul_nonpos_of_nonpos_of_nonneg (Int.mul_nonpos_of_nonpos_of_nonneg h' (Int.le_of_lt hv)) (Int.le_of_lt hk)
          omega
      rw [e a b' _ hb' hp, e a' b _ hb hq, h]
    have hn : a.natAbs * b'.natAbs * 10 ^ p = a'.natAbs * b.natAbs * 10 ^ q := by
      have := congrArg Int.natAbs h
      rw [Int.natAbs_mul, Int.natAbs_mul, Int.natAbs_mul, Int.natAbs_mul, Int.natAbs_pow, Int.natAbs_pow] at this
      exact this
    have hl := isLead_if ha hb
    generalize (if ((a.natAbs : Nat) : Int) * 10 ^ (max 0 (-(cd ((a.natAbs : Nat) : Int) - cd b))).toNat < b * 10 ^ (max 0 (cd ((a.natAbs : Nat) : Int) - cd b)).toNat then cd ((a.natAbs : Nat) : Int) - cd b - 1 else cd ((a.natAbs : Nat) : Int) - cd b) = l at hl
    have hl' := isLead_scale (by omega) (by omega) hn hl
    rw [lround_fin ha hb hl, lround_fin ha' hb' hl', rowN_scale (d := d) (l := l) (by omega) (by omega) hn, show l + p - q + ten = l + ten' by omega]
    unfold fin
    simp only [hs]
end Mine


namespace Mine
/-- quotient -/
def quot (o u e d : Int) : Int × Int :=
  let sh := max (d + 2 + cd u - cd o) 0
  let K := o.natAbs * 10 ^ sh.toNat
  let m : Int := 10 * ((K / u.natAbs : Nat) : Int) + (if K % u.natAbs = 0 then 0 else 1)
  (if (decide (o < 0)) = (decide (u < 0)) then m else -m, e - sh - 1)

/-- real_compare -/
def rcmp (x0 x1 y0 y1 : Int) : Int :=
  let m := x0 * 10 ^ (x1 - min x1 y1).toNat + -y0 * 10 ^ (y1 - min x1 y1).toNat
  if m = 0 then 0 else if m > 0 then 1 else -1
/-- real_to_int -/
def rtoi (m e : Int) : Int := if e ≥ 0 then m * 10 ^ e.toNat else if m > 0 then ((m.natAbs / 10 ^ (-e).toNat : Nat) : Int) else -((m.natAbs / 10 ^ (-e).toNat : Nat) : Int)

/-- the loop of raised -/
def rloop (f x : Int × Int) (n d : Int) : Int × Int :=
  if h : n ≤ 0 then f else rloop (if n % 2 = 1 then rdig (f.1 * x.1) (f.2 + x.2) (d + 8) else f) (rdig (x.1 * x.1) (2 * x.2) (d + 8)) (n / 2) d
termination_by n.toNat
decreasing_by omega
def raisedP (x0 x1 n d : Int) : Int × Int := if n ≤ 64 then (x0 ^ n.toNat, x1 * n) else rloop (1, 0) (x0, x1) n d

/-- real_div -/
def rdivP (x0 x1 y0 y1 d tp : Int) : Option (Int × Int) := if y0 = 0 then none else rreal (quot x0 y0 (x1 - y1) d).1 (quot x0 y0 (x1 - y1) d).2 d tp
/-- real_power -/
def rpowP (x0 x1 n d tp : Int) : Option (Int × Int) :=
  if n < 0 ∧ x0 = 0 then none
  else if n < 0 then rreal (quot 1 (raisedP x0 x1 (if n < 0 then -n else n) d).1 (-(raisedP x0 x1 (if n < 0 then -n else n) d).2) d).1 (quot 1 (raisedP x0 x1 (if n < 0 then -n else n) d).1 (-(raisedP x0 x1 (if n < 0 then -n else n) d).2) d).2 d tp
  else rreal (raisedP x0 x1 (if n < 0 then -n else n) d).1 (raisedP x0 x1 (if n < 0 then -n else n) d).2 d tp
end Mine


namespace Mine
theorem rne_of {a b q r : Nat} (h : a = b * q + r) (hr : r < b) : rne a b = q + (if 2 * r > b ∨ (2 * r = b ∧ q % 2 = 1) then 1 else 0) := by
  have h1 : a / b = q := by rw [h, Nat.mul_add_div (by omega), Nat.div_eq_of_lt hr]; rfl
  have h2 : a % b = r := by rw [h, Nat.mul_add_mod, Nat.mod_eq_of_lt hr]
  unfold rne; rw [h1, h2]
/-- a digit more that only tells that something is left rounds alike -/
theorem rne_sticky {K U h t : Nat} (hU : 0 < U) (hh : 0 < h) (ht : t = if K % U = 0 then 0 else 1) :
    rne (10 * (K / U) + t) (10 * (2 * h)) = rne K (U * (2 * h)) := by
  have hK := Nat.div_add_mod K U
  have hc := Nat.mod_lt K hU
  generalize K % U = c at *
  generalize K / U = k at *
  have hk := Nat.div_add_mod k (2 * h)
  have hs := Nat.mod_lt k (y := 2 * h) (by omega)
  generalize k % (2 * h) = s at *
  generalize k / (2 * h) = q at *
  have ht1 : t ≤ 1 := by split at ht <;> omega
  have e1 : 10 * k + t = 10 * (2 * h) * q + (10 * s + t) := by grind
  have e2 : K = U * (2 * h) * q + (U * s + c) := by grind
  have h2 : U * (2 * h) = 2 * (U * h) := by rw [Nat.mul_left_comm]
  have h3 : U * (s + 1) ≤ U * (2 * h) := Nat.mul_le_mul_left _ hs
  have h4 : U * (s + 1) = U * s + U := Nat.mul_succ _ _
  rw [rne_of e1 (by omega), rne_of e2 (by omega)]
  congr 1
  rw [h2]
  rcases Nat.lt_trichotomy s h with g | g | g
  · have g1 : U * (s + 1) ≤ U * h := Nat.mul_le_mul_left _ g
    rw [if_neg (by omega), if_neg (by omega)]
  · subst g
    by_cases hc0 : c = 0
    · rw [if_pos hc0] at ht
      subst hc0 ht
      by_cases hq : q % 2 = 1
      · rw [if_pos (by omega), if_pos (by omega)]
      · rw [if_neg (by omega), if_neg (by omega)]
    · rw [if_neg hc0] at ht
      rw [if_pos (by omega), if_pos (by omega)]
  · have g1 : U * (h + 1) ≤ U * s := Nat.mul_le_mul_left _ g
    have g2 : U * (h + 1) = U * h + U := Nat.mul_succ _ _
    rw [if_pos (by omega), if_pos (by omega)]
theorem isLead_up {A B k : Nat} (hB : 0 < B) (h1 : B * 10 ^ k ≤ A) (h2 : A < B * 10 ^ (k + 1)) : isLead A B (k : Int) := by
  refine ⟨?_, ?_⟩
  · rw [show ((k : Int)).toNat = k by omega, show (-(k : Int)).toNat = 0 by omega]; omega
  · rw [show ((k : Int) + 1).toNat = k + 1 by omega, show (-((k : Int) + 1)).toNat = 0 by omega]; omega
/-- the quotient with its sticky digit -/
theorem sticky {O U S : Nat} {d : Int} (hO : 0 < O) (hU : 0 < U) (hd : 1 ≤ d) (hS : U * 10 ^ (d.toNat + 1) ≤ O * 10 ^ S) :
    ∃ l : Int, isLead (10 * (O * 10 ^ S / U) + (if O * 10 ^ S % U = 0 then 0 else 1)) 1 l ∧ isLead O U (l - S - 1) ∧
      rowN (10 * (O * 10 ^ S / U) + (if O * 10 ^ S % U = 0 then 0 else 1)) 1 d l = rowN O U d (l - S - 1) := by
  generalize ht : (if O * 10 ^ S % U = 0 then 0 else 1) = t
  have ht1 : t ≤ 1 := by split at ht <;> omega
  have hk0 : 10 ^ (d.toNat + 1) ≤ O * 10 ^ S / U := (Nat.le_div_iff_mul_le hU).mpr (by rw [Nat.mul_comm]; exact hS)
  have hM0 : 0 < 10 * (O * 10 ^ S / U) + t := by have := p10_pos (d.toNat + 1); omega
  have hl := isLead_one hM0
  have hn1 := ndn_lt (10 * (O * 10 ^ S / U) + t)
  have hn2 := ndn_le hM0
  have hn4 : d.toNat + 2 < ndn (10 * (O * 10 ^ S / U) + t) := by
    refine lt_of_pow (Nat.lt_of_le_of_lt ?_ hn1)
    rw [Nat.pow_succ]; omega
  obtain ⟨j, hj⟩ := Nat.exists_eq_add_of_le (show d.toNat + 3 ≤ ndn (10 * (O * 10 ^ S / U) + t) by omega)
  rw [hj] at hl hn1 hn2
  have hK := Nat.div_add_mod (O * 10 ^ S) U
  have hc := Nat.mod_lt (O * 10 ^ S) hU
  have hkl : 10 ^ (d.toNat + 1 + j) ≤ O * 10 ^ S / U := by
    rw [show d.toNat + 3 + j - 1 = d.toNat + 1 + j + 1 by omega, Nat.pow_succ] at hn2; omega
  have hkh : O * 10 ^ S / U < 10 ^ (d.toNat + 1 + j + 1) := by
    rw [show d.toNat + 3 + j = d.toNat + 1 + j + 1 + 1 by omega, Nat.pow_succ] at hn1; omega
  have hlK : isLead (O * 10 ^ S) U ((d.toNat + 1 + j : Nat) : Int) := by
    refine isLead_up hU ?_ ?_
    · have := Nat.mul_le_mul_left U hkl; omega
    · have := Nat.mul_le_mul_left U hkh
      rw [Nat.succ_eq_add_one, Nat.mul_succ] at this; omega
  have hcross : O * 10 ^ S * U * 10 ^ 0 = O * U * 10 ^ S := by grind
  refine ⟨_, hl, ?_, ?_⟩
  · have h1 := isLead_scale hU hU hcross hlK
    rw [show ((d.toNat + 1 + j : Nat) : Int) + ((0 : Nat) : Int) - (S : Int) = ((d.toNat + 3 + j : Nat) : Int) - 1 - S - 1 by omega] at h1
    exact h1
  · have h1 := rowN_scale (d := d) (l := ((d.toNat + 1 + j : Nat) : Int)) hU hU hcross
    rw [show ((d.toNat + 1 + j : Nat) : Int) + ((0 : Nat) : Int) - (S : Int) = ((d.toNat + 3 + j : Nat) : Int) - 1 - S - 1 by omega] at h1
    rw [← h1]
    unfold rowN
    rw [show (d - 1 - (((d.toNat + 3 + j : Nat) : Int) - 1)).toNat = 0 by omega, show (-(d - 1 - (((d.toNat + 3 + j : Nat) : Int) - 1))).toNat = j + 3 by omega,
      show (d - 1 - ((d.toNat + 1 + j : Nat) : Int)).toNat = 0 by omega, show (-(d - 1 - ((d.toNat + 1 + j : Nat) : Int))).toNat = j + 2 by omega]
    rw [Nat.pow_zero, Nat.mul_one, Nat.mul_one, Nat.one_mul, show 10 ^ (j + 3) = 10 * (2 * (5 * 10 ^ (j + 1))) by rw [show j + 3 = j + 1 + 1 + 1 by omega, Nat.pow_succ, Nat.pow_succ (m := j + 1)]; omega,
      show 10 ^ (j + 2) = 2 * (5 * 10 ^ (j + 1)) by rw [show j + 2 = j + 1 + 1 by omega, Nat.pow_succ (m := j + 1)]; omega]
    exact rne_sticky hU (by have := p10_pos (j + 1); omega) ht.symm
theorem quot_lround {o u e d tp : Int} (ho : o ≠ 0) (hu : u ≠ 0) (hd : 1 ≤ d) (ht : 0 ≤ tp) :
    rreal (quot o u e d).1 (quot o u e d).2 d tp = lround (if decide (o < 0) = decide (u < 0) then (o.natAbs : Int) else -(o.natAbs : Int)) (u.natAbs : Nat) d tp e := by
  rw [rreal_lround _ _ _ hd ht]
  unfold quot
  dsimp only
  obtain ⟨S, hS⟩ : ∃ S : Nat, max (d + 2 + cd u - cd o) 0 = S := ⟨(max (d + 2 + cd u - cd o) 0).toNat, by omega⟩
  rw [hS, Int.toNat_natCast]
  have hU : 0 < u.natAbs := by omega
  have hO : 0 < o.natAbs := by omega
  have hK : u.natAbs * 10 ^ (d.toNat + 1) ≤ o.natAbs * 10 ^ S := by
    have h1 := ndn_lt u.natAbs
    have h2 := ndn_le hO
    have h3 := ndn_one_le hO
    have h4 : 10 ^ ndn u.natAbs * 10 ^ (d.toNat + 1) ≤ 10 ^ (ndn o.natAbs - 1) * 10 ^ S := by
      rw [← Nat.pow_add, ← Nat.pow_add]
      refine pow_mono ?_
      unfold cd at hS; omega
    exact Nat.le_trans (Nat.mul_le_mul_right _ (Nat.le_of_lt h1)) (Nat.le_trans h4 (Nat.mul_le_mul_right _ h2))
  obtain ⟨l, k1, k2, k3⟩ := sticky hO hU hd hK
  have eM : (10 * ((o.natAbs * 10 ^ S / u.natAbs : Nat) : Int) + (if o.natAbs * 10 ^ S % u.natAbs = 0 then 0 else 1)) = ((10 * (o.natAbs * 10 ^ S / u.natAbs) + (if o.natAbs * 10 ^ S % u.natAbs = 0 then 0 else 1) : Nat) : Int) := by
    split <;> omega
  rw [eM]
  have hM : 0 < 10 * (o.natAbs * 10 ^ S / u.natAbs) + (if o.natAbs * 10 ^ S % u.natAbs = 0 then 0 else 1) := by
    have : 10 ^ (d.toNat + 1) ≤ o.natAbs * 10 ^ S / u.natAbs := (Nat.le_div_iff_mul_le hU).mpr (by rw [Nat.mul_comm]; exact hK)
    have := p10_pos (d.toNat + 1); omega
  generalize 10 * (o.natAbs * 10 ^ S / u.natAbs) + (if o.natAbs * 10 ^ S % u.natAbs = 0 then 0 else 1) = M at *
  have f : ∀ x : Nat, (if decide (o < 0) = decide (u < 0) then (x : Int) else -(x : Int)).natAbs = x := by intro x; split <;> omega
  have hne : ∀ x : Nat, 0 < x → (if decide (o < 0) = decide (u < 0) then (x : Int) else -(x : Int)) ≠ 0 := by intro x hx; split <;> omega
  have hgt : ((if decide (o < 0) = decide (u < 0) then (M : Int) else -(M : Int)) > 0) ↔ ((if decide (o < 0) = decide (u < 0) then (o.natAbs : Int) else -(o.natAbs : Int)) > 0) := by split <;> omega
  rw [lround_fin (l := l) (hne _ hM) (by decide) (by rw [f]; exact k1), lround_fin (l := l - S - 1) (hne _ hO) (by omega) (by rw [f, Int.natAbs_natCast]; exact k2), f, f, Int.natAbs_natCast, show (1 : Int).natAbs = 1 from rfl, k3, show l + (e - S - 1) = l - S - 1 + e by omega]
  unfold fin
  simp only [hgt]
end Mine


namespace Mine
theorem pw32 {a b c e f : Nat} (h : a + b + c = e + f) : (10 : Int) ^ a * 10 ^ b * 10 ^ c = 10 ^ e * 10 ^ f := by
  rw [← Int.pow_add, ← Int.pow_add, ← Int.pow_add, h]
theorem pw33 {a b c e f g : Nat} (h : a + b + c = e + f + g) : (10 : Int) ^ a * 10 ^ b * 10 ^ c = 10 ^ e * 10 ^ f * 10 ^ g := by
  rw [← Int.pow_add, ← Int.pow_add, ← Int.pow_add, ← Int.pow_add, h]
theorem p10i (k : Nat) : (0 : Int) < 10 ^ k := Int.pow_pos (by decide)
/-- the two halves of an exponent -/
theorem pn (x : Int) : ((max 0 x).toNat : Int) = ((max 0 (-x)).toNat : Int) + x := by
  rcases Int.le_total 0 x with h | h
  · rw [Int.max_eq_right h, Int.max_eq_left (by omega), Int.toNat_of_nonneg h]; simp
  · rw [Int.max_eq_left h, Int.max_eq_right (by omega), Int.toNat_of_nonneg (show 0 ≤ -x by omega)]; simp; omega
theorem pn_nat {x : Int} {a : Nat} (h : (a : Int) = x) : a = x.toNat := by omega
theorem pn_sum (x m : Int) (h : m ≤ x) : (x - m).toNat + (max 0 (-x)).toNat + (max 0 m).toNat = (max 0 x).toNat + (max 0 (-m)).toNat := by
  have h1 := pn x
  have h2 := pn m
  have h3 := Int.toNat_of_nonneg (show 0 ≤ x - m by omega)
  generalize (x - m).toNat = a at *
  generalize (max 0 (-x)).toNat = b at *
  generalize (max 0 m).toNat = c at *
  generalize (max 0 x).toNat = e at *
  generalize (max 0 (-m)).toNat = f at *
  omega
theorem pn_mul (x y : Int) : (max 0 (-x)).toNat + (max 0 (-y)).toNat + (max 0 (x + y)).toNat = (max 0 x).toNat + (max 0 y).toNat + (max 0 (-(x + y))).toNat := by
  have h1 := pn x
  have h2 := pn y
  have h3 := pn (x + y)
  generalize (max 0 (-x)).toNat = b at *
  generalize (max 0 (-y)).toNat = c at *
  generalize (max 0 x).toNat = e at *
  generalize (max 0 y).toNat = f at *
  generalize (max 0 (x + y)).toNat = k at *
  generalize (max 0 (-(x + y))).toNat = l at *
  omega
theorem pn_div (x y : Int) : (max 0 (-x)).toNat + (max 0 y).toNat + (max 0 (x - y)).toNat = (max 0 x).toNat + (max 0 (-y)).toNat + (max 0 (-(x - y))).toNat := by
  have h := pn_mul x (-y)
  rwa [Int.neg_neg, ← Int.sub_eq_add_neg] at h
/-- sums -/
theorem law_sum (x0 x1 y0 y1 : Int) : (x0 * 10 ^ (x1 - min x1 y1).toNat + y0 * 10 ^ (y1 - min x1 y1).toNat) * (10 ^ (max 0 (-x1)).toNat * 10 ^ (max 0 (-y1)).toNat) * 10 ^ (max 0 (min x1 y1)).toNat =
    (x0 * 10 ^ (max 0 x1).toNat * 10 ^ (max 0 (-y1)).toNat + y0 * 10 ^ (max 0 y1).toNat * 10 ^ (max 0 (-x1)).toNat) * 1 * 10 ^ (max 0 (-(min x1 y1))).toNat := by
  have h1 := pw32 (a := (x1 - min x1 y1).toNat) (b := (max 0 (-x1)).toNat) (c := (max 0 (min x1 y1)).toNat) (e := (max 0 x1).toNat) (f := (max 0 (-(min x1 y1))).toNat) (pn_sum _ _ (Int.min_le_left _ _))
  have h2 := pw32 (a := (y1 - min x1 y1).toNat) (b := (max 0 (-y1)).toNat) (c := (max 0 (min x1 y1)).toNat) (e := (max 0 y1).toNat) (f := (max 0 (-(min x1 y1))).toNat) (pn_sum _ _ (Int.min_le_right _ _))
  generalize (10 : Int) ^ (x1 - min x1 y1).toNat = p1 at *
  generalize (10 : Int) ^ (y1 - min x1 y1).toNat = p2 at *
  generalize (10 : Int) ^ (max 0 (-x1)).toNat = p3 at *
  generalize (10 : Int) ^ (max 0 (-y1)).toNat = p4 at *
  generalize (10 : Int) ^ (max 0 x1).toNat = p5 at *
  generalize (10 : Int) ^ (max 0 y1).toNat = p6 at *
  generalize (10 : Int) ^ (max 0 (min x1 y1)).toNat = p7 at *
  generalize (10 : Int) ^ (max 0 (-(min x1 y1))).toNat = p8 at *
  grind
theorem law_add (x0 x1 y0 y1 : Int) {d tp : Int} (hd : 1 ≤ d) (ht : 0 ≤ tp) :
    rreal (x0 * 10 ^ (x1 - min x1 y1).toNat + y0 * 10 ^ (y1 - min x1 y1).toNat) (min x1 y1) d tp =
    lround (x0 * 10 ^ (max 0 x1).toNat * 10 ^ (max 0 (-y1)).toNat + y0 * 10 ^ (max 0 y1).toNat * 10 ^ (max 0 (-x1)).toNat) (10 ^ (max 0 (-x1)).toNat * 10 ^ (max 0 (-y1)).toNat) d tp 0 := by
  rw [rreal_lround _ _ _ hd ht]
  exact lround_scale d tp hd (by decide) (Int.mul_pos (p10i _) (p10i _)) (law_sum x0 x1 y0 y1) (by omega)
theorem law_sub (x0 x1 y0 y1 : Int) {d tp : Int} (hd : 1 ≤ d) (ht : 0 ≤ tp) :
    rreal (x0 * 10 ^ (x1 - min x1 y1).toNat + -y0 * 10 ^ (y1 - min x1 y1).toNat) (min x1 y1) d tp =
    lround (x0 * 10 ^ (max 0 x1).toNat * 10 ^ (max 0 (-y1)).toNat - y0 * 10 ^ (max 0 y1).toNat * 10 ^ (max 0 (-x1)).toNat) (10 ^ (max 0 (-x1)).toNat * 10 ^ (max 0 (-y1)).toNat) d tp 0 := by
  rw [law_add x0 x1 (-y0) y1 hd ht, Int.neg_mul, Int.neg_mul, ← Int.sub_eq_add_neg]
theorem law_mul (x0 x1 y0 y1 : Int) {d tp : Int} (hd : 1 ≤ d) (ht : 0 ≤ tp) :
    rreal (x0 * y0) (x1 + y1) d tp =
    lround (x0 * 10 ^ (max 0 x1).toNat * (y0 * 10 ^ (max 0 y1).toNat)) (10 ^ (max 0 (-x1)).toNat * 10 ^ (max 0 (-y1)).toNat) d tp 0 := by
  rw [rreal_lround _ _ _ hd ht]
  refine lround_scale d tp hd (by decide) (Int.mul_pos (p10i _) (p10i _)) (p := (max 0 (x1 + y1)).toNat) (q := (max 0 (-(x1 + y1))).toNat) ?_ (by omega)
  have h1 := pw33 (a := (max 0 (-x1)).toNat) (b := (max 0 (-y1)).toNat) (c := (max 0 (x1 + y1)).toNat) (e := (max 0 x1).toNat) (f := (max 0 y1).toNat) (g := (max 0 (-(x1 + y1))).toNat) (pn_mul _ _)
  grind
theorem quot_zero (u e d : Int) : (quot 0 u e d).1 = 0 := by
  unfold quot
  dsimp only
  rw [show (0 : Int).natAbs = 0 from rfl, Nat.zero_mul, Nat.zero_div, Nat.zero_mod]
  split <;> rfl
theorem quot_lround0 {o u e d tp : Int} (hu : u ≠ 0) (hd : 1 ≤ d) (ht : 0 ≤ tp) :
    rreal (quot o u e d).1 (quot o u e d).2 d tp = lround (o * (if u > 0 then 1 else -1)) (u.natAbs : Nat) d tp e := by
  by_cases ho : o = 0
  · subst ho
    rw [quot_zero, rreal_zero (by omega), Int.zero_mul, lround_zero]
  · rw [quot_lround ho hu hd ht]
    congr 1
    by_cases h1 : o < 0 <;> by_cases h2 : u < 0 <;> simp only [h1, h2, decide_true, decide_false, if_true, Bool.false_eq_true, Bool.true_eq_false, if_false, reduceCtorEq]
    · rw [if_neg (show ¬ u > 0 by omega)]; omega
    · rw [if_pos (show u > 0 by omega)]; omega
    · rw [if_neg (show ¬ u > 0 by omega)]; omega
    · rw [if_pos (show u > 0 by omega)]; omega
theorem law_div (x0 x1 y0 y1 : Int) {d tp : Int} (hd : 1 ≤ d) (ht : 0 ≤ tp) :
    rdivP x0 x1 y0 y1 d tp = if y0 * 10 ^ (max 0 y1).toNat = 0 then none else
    lround (x0 * 10 ^ (max 0 x1).toNat * 10 ^ (max 0 (-y1)).toNat * (if y0 * 10 ^ (max 0 y1).toNat > 0 then 1 else -1)) (10 ^ (max 0 (-x1)).toNat * ((y0 * 10 ^ (max 0 y1).toNat).natAbs : Nat)) d tp 0 := by
  have hP := p10i (max 0 y1).toNat
  have e0 : y0 * 10 ^ (max 0 y1).toNat = 0 ↔ y0 = 0 := by
    constructor
    · intro h
      rcases Int.mul_eq_zero.mp h with h | h <;> omega
    · rintro rfl; exact Int.zero_mul _
  have e1 : y0 * 10 ^ (max 0 y1).toNat > 0 ↔ y0 > 0 := by
    constructor
    · intro h
      refine Int.not_le.mp fun h' => ?_
      have := Int.mul_nonpos_of_nonpos_of_nonneg h' (Int.le_of_lt hP); omega
    · intro h; exact Int.mul_pos h hP
  have e2 : (((y0 * 10 ^ (max 0 y1).toNat).natAbs : Nat) : Int) = (y0.natAbs : Nat) * 10 ^ (max 0 y1).toNat := by
    rw [Int.natAbs_mul, Int.natAbs_pow, Int.natCast_mul, Int.natCast_pow]; rfl
  unfold rdivP
  simp only [e0, e1, e2]
  by_cases hy : y0 = 0
  · rw [if_pos hy, if_pos hy]
  rw [if_neg hy, if_neg hy, quot_lround0 hy hd ht]
  have hu : (0 : Int) < (y0.natAbs : Nat) := by omega
  refine lround_scale d tp hd hu (Int.mul_pos (p10i _) (Int.mul_pos hu (p10i _))) (p := (max 0 (x1 - y1)).toNat) (q := (max 0 (-(x1 - y1))).toNat) ?_ (by omega)
  have h1 := pw33 (a := (max 0 (-x1)).toNat) (b := (max 0 y1).toNat) (c := (max 0 (x1 - y1)).toNat) (e := (max 0 x1).toNat) (f := (max 0 (-y1)).toNat) (g := (max 0 (-(x1 - y1))).toNat) (pn_div _ _)
  generalize (if y0 > 0 then (1 : Int) else -1) = sg
  generalize ((y0.natAbs : Nat) : Int) = U at *
  grind
theorem law_cmp (x0 x1 y0 y1 : Int) : rcmp x0 x1 y0 y1 =
    (if x0 * 10 ^ (max 0 x1).toNat * 10 ^ (max 0 (-y1)).toNat > y0 * 10 ^ (max 0 y1).toNat * 10 ^ (max 0 (-x1)).toNat then 1 else 0) - (if x0 * 10 ^ (max 0 x1).toNat * 10 ^ (max 0 (-y1)).toNat < y0 * 10 ^ (max 0 y1).toNat * 10 ^ (max 0 (-x1)).toNat then 1 else 0) := by
  have h := law_sum x0 x1 (-y0) y1
  unfold rcmp
  dsimp only
  generalize x0 * 10 ^ (x1 - min x1 y1).toNat + -y0 * 10 ^ (y1 - min x1 y1).toNat = m at *
  rw [Int.mul_one, Int.neg_mul, Int.neg_mul, ← Int.sub_eq_add_neg] at h
  have k1 : (0 : Int) < 10 ^ (max 0 (-x1)).toNat * 10 ^ (max 0 (-y1)).toNat * 10 ^ (max 0 (min x1 y1)).toNat := Int.mul_pos (Int.mul_pos (p10i _) (p10i _)) (p10i _)
  have k2 := p10i (max 0 (-(min x1 y1))).toNat
  rw [Int.mul_assoc] at h
  generalize (10 : Int) ^ (max 0 (-x1)).toNat * 10 ^ (max 0 (-y1)).toNat * 10 ^ (max 0 (min x1 y1)).toNat = u at *
  generalize (10 : Int) ^ (max 0 (-(min x1 y1))).toNat = v at *
  generalize x0 * 10 ^ (max 0 x1).toNat * 10 ^ (max 0 (-y1)).toNat = p at *
  generalize y0 * 10 ^ (max 0 y1).toNat * 10 ^ (max 0 (-x1)).toNat = q at *
  rcases Int.lt_trichotomy m 0 with g | g | g
  · have g1 := Int.mul_neg_of_neg_of_pos g k1
    have g2 : p < q := Int.not_le.mp fun h' => by
      have := Int.mul_nonneg (Int.sub_nonneg.mpr h') (Int.le_of_lt k2); omega
    rw [if_neg (by omega), if_neg (by omega), if_neg (by omega), if_pos g2]; rfl
  · subst g
    rw [Int.zero_mul] at h
    have g2 : p = q := by rcases Int.mul_eq_zero.mp h.symm with h | h <;> omega
    rw [if_pos rfl, if_neg (by omega), if_neg (by omega)]; rfl
  · have g1 := Int.mul_pos g k1
    have g2 : q < p := Int.not_le.mp fun h' => by
      have := Int.mul_nonpos_of_nonpos_of_nonneg (show p - q ≤ 0 by omega) (Int.le_of_lt k2); omega
    rw [if_neg (by omega), if_pos g, if_pos g2, if_neg (by omega)]; rfl
theorem law_toi (x0 x1 : Int) : rtoi x0 x1 = if x0 * 10 ^ (max 0 x1).toNat > 0 then (((x0 * 10 ^ (max 0 x1).toNat).natAbs : Nat) : Int).fdiv (10 ^ (max 0 (-x1)).toNat) else -(((x0 * 10 ^ (max 0 x1).toNat).natAbs : Nat) : Int).fdiv (10 ^ (max 0 (-x1)).toNat) := by
  have hP := p10i (max 0 (-x1)).toNat
  rw [Int.fdiv_eq_ediv_of_nonneg _ (Int.le_of_lt hP)]
  unfold rtoi
  by_cases h : x1 ≥ 0
  · rw [if_pos h, show (max 0 (-x1)).toNat = 0 by omega, Int.pow_zero, Int.ediv_one, show (max 0 x1).toNat = x1.toNat by omega]
    split <;> omega
  · rw [if_neg h, show (max 0 x1).toNat = 0 by omega, Int.pow_zero, Int.mul_one, show (max 0 (-x1)).toNat = (-x1).toNat by omega, Int.natCast_ediv, Int.natCast_pow]
    rfl
theorem law_frac (m e : Int) {d tp : Int} (hd : 1 ≤ d) (ht : 0 ≤ tp) : rreal m e d tp = lround (m * 10 ^ (max 0 e).toNat) (10 ^ (max 0 (-e)).toNat) d tp 0 := by
  rw [rreal_lround _ _ _ hd ht]
  refine lround_scale d tp hd (by decide) (p10i _) (p := (max 0 e).toNat) (q := (max 0 (-e)).toNat) ?_ (by omega)
  grind
end Mine


namespace Mine
theorem pow_sign {x : Int} (h : x < 0) (k : Nat) : (k % 2 = 0 → 0 < x ^ k) ∧ (k % 2 = 1 → x ^ k < 0) := by
  induction k with
  | zero => exact ⟨fun _ => by rw [Int.pow_zero]; decide, fun h => by omega⟩
  | succ k ih =>
    rw [Int.pow_succ]
    refine ⟨fun h2 => ?_, fun h2 => ?_⟩
    · exact Int.mul_pos_of_neg_of_neg (ih.2 (by omega)) h
    · exact Int.mul_neg_of_pos_of_neg (ih.1 (by omega)) h
theorem pow_ne0 {x : Int} (h : x ≠ 0) (k : Nat) : x ^ k ≠ 0 := Int.pow_ne_zero h
/-- the law's numerator and denominator of a power -/
abbrev powA (x0 n : Int) : Int := x0 ^ (max 0 n).toNat * (if x0 < 0 ∧ n < 0 ∧ n.fmod 2 = 1 then -1 else 1)
abbrev powB (x0 n : Int) : Int := ((x0.natAbs : Nat) : Int) ^ (max 0 (-n)).toNat
theorem powA_neg {x0 n : Int} (hx : x0 ≠ 0) (hn : n < 0) : powA x0 n = 1 * (if x0 ^ (-n).toNat > 0 then 1 else -1) := by
  unfold powA
  rw [show (max 0 n).toNat = 0 by omega, Int.pow_zero, Int.fmod_eq_emod_of_nonneg _ (by decide)]
  congr 1
  by_cases h : x0 < 0
  · obtain ⟨h1, h2⟩ := pow_sign h (-n).toNat
    by_cases h3 : n % 2 = 1
    · have := h2 (by omega)
      rw [if_pos ⟨h, hn, h3⟩, if_neg (by omega)]
    · have := h1 (by omega)
      rw [if_neg (by rintro ⟨_, _, h⟩; contradiction), if_pos (by omega)]
  · have : 0 < x0 ^ (-n).toNat := Int.pow_pos (by omega)
    rw [if_neg (by rintro ⟨h', _⟩; contradiction), if_pos (by omega)]
theorem powB_neg {x0 n : Int} (hn : n < 0) : powB x0 n = ((x0 ^ (-n).toNat).natAbs : Nat) := by
  unfold powB
  rw [Int.natAbs_pow, Int.natCast_pow, show (max 0 (-n)).toNat = (-n).toNat by omega]
theorem powA_pos {x0 n : Int} (hn : 0 ≤ n) : powA x0 n = x0 ^ n.toNat := by
  unfold powA
  rw [if_neg (by rintro ⟨_, h, _⟩; omega), Int.mul_one, show (max 0 n).toNat = n.toNat by omega]
theorem powB_pos {x0 n : Int} (hn : 0 ≤ n) : powB x0 n = 1 := by
  unfold powB
  rw [show (max 0 (-n)).toNat = 0 by omega, Int.pow_zero]
theorem law_near {x0 x1 n d tp : Int} (hd : 1 ≤ d) (ht : 0 ≤ tp) (h1 : -64 ≤ n) (h2 : n ≤ 64) :
    rpowP x0 x1 n d tp = if n < 0 ∧ x0 = 0 then none else lround (powA x0 n) (powB x0 n) d tp (x1 * n) := by
  unfold rpowP
  by_cases h : n < 0 ∧ x0 = 0
  · rw [if_pos h, if_pos h]
  rw [if_neg h, if_neg h]
  have e : raisedP x0 x1 (if n < 0 then -n else n) d = (x0 ^ (if n < 0 then -n else n).toNat, x1 * (if n < 0 then -n else n)) := by
    unfold raisedP; rw [if_pos (by split <;> omega)]
  rw [e]
  by_cases hn : n < 0
  · have hx : x0 ≠ 0 := fun hx => h ⟨hn, hx⟩
    simp only [if_pos hn]
    rw [quot_lround0 (pow_ne0 hx _) hd ht, powA_neg hx hn, powB_neg hn, Int.mul_neg, Int.neg_neg]
  · simp only [if_neg hn]
    rw [powA_pos (by omega), powB_pos (by omega), rreal_lround _ _ _ hd ht]
/-- a row has d digits, or is the next power -/
theorem rne_within {A B k : Nat} (hB : 0 < B) (h1 : B * 10 ^ k ≤ A) (h2 : A < B * 10 ^ (k + 1)) : 10 ^ k ≤ rne A B ∧ rne A B ≤ 10 ^ (k + 1) := by
  have q1 : 10 ^ k ≤ A / B := (Nat.le_div_iff_mul_le hB).mpr (by rw [Nat.mul_comm]; exact h1)
  have q2 : A / B < 10 ^ (k + 1) := Nat.div_lt_of_lt_mul h2
  unfold rne
  split <;> omega
theorem rowN_within {A B : Nat} {l : Int} {k : Nat} (hB : 0 < B) (h : isLead A B l) : 10 ^ k ≤ rowN A B ((k + 1 : Nat) : Int) l ∧ rowN A B ((k + 1 : Nat) : Int) l ≤ 10 ^ (k + 1) := by
  obtain ⟨h1, h2⟩ := row_bounds (d := k + 1) (by omega) h
  exact rne_within (Nat.mul_pos hB (p10_pos _)) (by rw [Nat.add_sub_cancel] at h1; exact h1) h2
theorem cd_nat (r : Nat) : cd ((r : Nat) : Int) = (ndn r : Nat) := by unfold cd; rw [Int.natAbs_natCast]
theorem rowN_cd {A B : Nat} {d l : Int} (hB : 0 < B) (hd : 1 ≤ d) (h : isLead A B l) : d ≤ cd (rowN A B d l : Nat) ∧ cd (rowN A B d l : Nat) ≤ d + 1 := by
  obtain ⟨k, rfl⟩ : ∃ k : Nat, d = ((k + 1 : Nat) : Int) := ⟨(d - 1).toNat, by omega⟩
  obtain ⟨h1, h2⟩ := rowN_within (k := k) hB h
  rw [cd_nat]
  have k1 : k + 1 ≤ ndn (rowN A B ((k + 1 : Nat) : Int) l) := by
    have := ndn_lt (rowN A B ((k + 1 : Nat) : Int) l)
    have := lt_of_pow (Nat.lt_of_le_of_lt h1 this)
    omega
  have k2 : ndn (rowN A B ((k + 1 : Nat) : Int) l) ≤ k + 2 := ndn_le_of_lt (by rw [Nat.pow_succ 10 (k + 1)]; have := p10_pos (k + 1); omega)
  omega
theorem law_wide {m e d tp : Int} (hd : 1 ≤ d) (ht : 0 ≤ tp) (ht2 : tp ≤ 40) (hm1 : -10 ^ 40 ≤ m) (hm2 : m ≤ 10 ^ 40) (h : m = 0 ∨ 200 < e ∨ e < -200) :
    rreal m e d tp = if m ≠ 0 ∧ e > 0 then none else some (0, 0) := by
  rw [rreal_lround _ _ _ hd ht]
  by_cases hm : m = 0
  · rw [hm, lround_zero, if_neg (by simp)]
  have hl : isLead m.natAbs (1 : Int).natAbs ((ndn m.natAbs : Int) - 1) := isLead_one (by omega)
  have h1 := ndn_one_le (n := m.natAbs) (by omega)
  have h2 : ndn m.natAbs ≤ 41 := ndn_le_of_lt (by omega)
  obtain ⟨k1, k2⟩ := rowN_cd (d := d) (by decide) hd hl
  rw [lround_fin hm (by decide) hl]
  unfold fin
  generalize cd (rowN m.natAbs (1 : Int).natAbs d ((ndn m.natAbs : Int) - 1) : Nat) = c at *
  rcases h with h | h | h
  · contradiction
  · rw [if_pos (show (ndn m.natAbs : Int) - 1 + e + (c - d) > tp by omega), if_pos ⟨hm, by omega⟩]
  · rw [if_neg (show ¬ (ndn m.natAbs : Int) - 1 + e + (c - d) > tp by omega), if_pos (show (ndn m.natAbs : Int) - 1 + e + (c - d) < -tp by omega), if_neg (by rintro ⟨_, h'⟩; omega)]
end Mine


theorem Mine.off_size : True := by
  w_top off
  trivial

namespace Mine

/-- at most so many digits -/
def CB (a : Int) (k : Nat) : Prop := cd a ≤ (k : Int)
theorem CB.lt {a : Int} {k : Nat} (h : CB a k) : a.natAbs < 10 ^ k := by
  unfold CB cd at h
  exact Nat.lt_of_lt_of_le (ndn_lt _) (pow_mono (by omega))
theorem CB.of_lt {a : Int} {k : Nat} (h : a.natAbs < 10 ^ k) : CB a k := by
  unfold CB cd
  have := ndn_le_of_lt h
  omega
theorem CB.le {a : Int} {i j : Nat} (h : CB a i) (hj : i ≤ j) : CB a j := by unfold CB at *; omega
theorem CB.mul {a b : Int} {i j : Nat} (ha : CB a i) (hb : CB b j) : CB (a * b) (i + j) := by
  refine CB.of_lt ?_
  rw [Int.natAbs_mul, Nat.pow_add]
  exact Nat.lt_of_le_of_lt (Nat.mul_le_mul_left _ (Nat.le_of_lt hb.lt)) (Nat.mul_lt_mul_of_pos_right ha.lt (p10_pos j))
theorem CB.add {a b : Int} {i j : Nat} (ha : CB a i) (hb : CB b j) : CB (a + b) (i + j + 1) := by
  refine CB.of_lt ?_
  have h1 := ha.lt
  have h2 := hb.lt
  have h3 : 10 ^ i ≤ 10 ^ (i + j) := pow_mono (by omega)
  have h4 : 10 ^ j ≤ 10 ^ (i + j) := pow_mono (by omega)
  rw [Nat.pow_succ]
  omega
theorem CB.neg {a : Int} {i : Nat} (ha : CB a i) : CB (-a) i := by unfold CB at *; rw [cd_neg]; exact ha
theorem CB.sub {a b : Int} {i j : Nat} (ha : CB a i) (hb : CB b j) : CB (a - b) (i + j + 1) := by rw [Int.sub_eq_add_neg]; exact ha.add hb.neg
theorem CB.pow10 (n : Nat) : CB ((10 : Int) ^ n) (n + 1) := by
  refine CB.of_lt ?_
  rw [Int.natAbs_pow]
  exact Nat.pow_lt_pow_right (by decide) (by omega)
theorem CB.pow {a : Int} {i : Nat} (ha : CB a i) (n : Nat) : CB (a ^ n) (i * n + 1) := by
  refine CB.of_lt ?_
  rw [Int.natAbs_pow]
  have : a.natAbs ^ n ≤ (10 ^ i) ^ n := Nat.pow_le_pow_left (Nat.le_of_lt ha.lt) n
  rw [← Nat.pow_mul] at this
  exact Nat.lt_of_le_of_lt this (Nat.pow_lt_pow_right (by decide) (by omega))
theorem CB.ite {c : Prop} [Decidable c] {a b : Int} {i j : Nat} (ha : CB a i) (hb : CB b j) : CB (if c then a else b) (i + j) := by
  split
  · exact ha.le (by omega)
  · exact hb.le (by omega)
theorem CB.fdiv {a : Int} {i : Nat} (b : Int) (ha : CB a i) : CB (a.fdiv b) i := by
  refine CB.of_lt (Nat.lt_of_le_of_lt ?_ ha.lt)
  have := @Int.natAbs_fdiv_le_natAbs a b
  exact this
theorem CB.fmod {a b : Int} {j : Nat} (hb : CB b j) (h0 : b ≠ 0) : CB (a.fmod b) j := by
  refine CB.of_lt (Nat.lt_of_le_of_lt ?_ hb.lt)
  rcases Int.lt_or_gt_of_ne h0 with h | h
  · have e : a.fmod b = -((-a).fmod (-b)) := by rw [Int.neg_fmod_neg]; omega
    have h1 := Int.fmod_nonneg_of_pos (-a) (b := -b) (by omega)
    have h2 := Int.fmod_lt_of_pos (-a) (b := -b) (by omega)
    omega
  · have h1 := Int.fmod_nonneg_of_pos a h
    have h2 := Int.fmod_lt_of_pos a h
    omega
theorem CB.max {a b : Int} {i j : Nat} (ha : CB a i) (hb : CB b j) : CB (Max.max a b) (i + j) := by
  rw [Int.max_def]; exact CB.ite hb ha |>.le (by omega)
theorem bits_of_cb {a : Int} {k : Nat} (h : CB a k) : Builtin.Int.intBits a ≤ 4 * k := by
  unfold Builtin.Int.intBits
  split
  · omega
  · rename_i h0
    have h0 : a ≠ 0 := by simpa using h0
    have : a.natAbs < 2 ^ (4 * k) := by
      rw [Nat.pow_mul]
      exact Nat.lt_of_lt_of_le h.lt (Nat.pow_le_pow_left (by decide) k)
    have := (Nat.log2_lt (by omega)).mpr this
    omega
theorem mulOk_of_cb {a b : Int} {i j : Nat} (ha : CB a i) (hb : CB b j) (h : i + j ≤ 10000000) : IntMulOk a b := by
  have h1 := bits_of_cb ha
  have h2 := bits_of_cb hb
  unfold IntMulOk
  have : Builtin.Int.intTooBig ((Builtin.Int.intBits a : Int) + Builtin.Int.intBits b) = false := by
    unfold Builtin.Int.intTooBig
    refine decide_eq_false ?_
    have : bitsLine = 134217728 := by decide
    omega
  simp [this]
theorem p10_2700 : 10 ^ 2700 < 2 ^ 9000 := by decide +kernel
theorem noPy_of_cb {x y : Int} {k : Nat} (h : CB y k) (hk : k ≤ 2700) : Builtin.divisionGoesByPylong x y = false := by
  refine PyProof.noPylong_of_log2 ?_
  by_cases h0 : y.natAbs = 0
  · rw [h0]; decide +kernel
  · exact (Nat.log2_lt h0).mpr (Nat.lt_of_lt_of_le (h.le hk).lt (Nat.le_of_lt p10_2700))
theorem pow10_ne (n : Nat) : (10 : Int) ^ n ≠ 0 := Int.ne_of_gt (Int.pow_pos (by decide))
theorem pow_small {a : Int} (n : Int) {i : Nat} (ha : CB a i) (hn : 0 ≤ n) (hi : (i : Int) * n ≤ 10000000) : (Builtin.Int.intBits a : Int) * n ≤ 2 ^ 27 := by
  have h1 := bits_of_cb ha
  have h2 : (Builtin.Int.intBits a : Int) * n ≤ (4 * i : Nat) * n := Int.mul_le_mul_of_nonneg_right (by omega) hn
  have h3 : ((4 * i : Nat) : Int) * n = 4 * ((i : Int) * n) := by rw [Int.natCast_mul, Int.mul_assoc]; rfl
  omega
end Mine


theorem Mine.off_base : True := by
  w_top off
  trivial

namespace Mine

abbrev Led := List (Addr × Obj)
abbrev pairObj (x y : Int) (t1 t2 : Tok) (c : Nat) : Obj := { cls := .type "tuple", data := .seq #[.int x t1, .int y t2] c }

/-- what a called def asks of its caller -/
abbrev Ctr (prog : Program) (w : World) (p : Program) (loose : List Str) (mean : ExcName → Option Value) (mg mb : Str → Option Value) (f : Addr) (k : Nat) (news : Led) (vs : List Value)
    (Post : Heap → Addr → (Str → Option Value) → Shared → (Value → Shared → Prop) → Prop) : Prop :=
  ∀ (dp un : Nat) (gd : Option (List Code)) (cn : Str) (cs : Scope) (a : Addr) (ccd : Value) (cl : List (Str × Addr)) (outer : List Env) (A₀ : Around) (base h₀ : Heap) (L : Addr) (m : Str → Option Value) (s : Shared) (Q E : Value → Shared → Prop),
    Below A₀ base outer h₀ → Fr h₀ L s.heap m → (Mine.hd.heap_1 w.params).In h₀ → News h₀ L s.heap news → Top p loose mean mg mb h₀ → cs.kind = .function → dp + k < recursionLimit → un + 8 * k < cLine →
    Post h₀ L m s Q →
    wpAny (model prog w) (ktrTop dp un gd cn cs L a ccd cl outer) (call (.ref f) vs) Q E s

abbrev RetI (news : Led) (x : Int) (h₀ : Heap) (L : Addr) (m : Str → Option Value) (s : Shared) (Q : Value → Shared → Prop) : Prop :=
  ∀ (t : Tok) (h' : Heap) (tk' : Nat), Fr h₀ L h' m → News h₀ L h' news → Q (.int x t) { s with heap := h', toks := tk' }
abbrev RetB (news : Led) (x : Bool) (h₀ : Heap) (L : Addr) (m : Str → Option Value) (s : Shared) (Q : Value → Shared → Prop) : Prop :=
  ∀ (h' : Heap) (tk' : Nat), Fr h₀ L h' m → News h₀ L h' news → Q (.bool x) { s with heap := h', toks := tk' }
/-- a new pair -/
abbrev RetN (news : Led) (x : Int × Int) (h₀ : Heap) (L : Addr) (m : Str → Option Value) (s : Shared) (Q : Value → Shared → Prop) : Prop :=
  ∀ (D : Addr) (t1 t2 : Tok) (c : Nat) (h' : Heap) (tk' : Nat), Fr h₀ L h' m → News h₀ L h' ((D, pairObj x.1 x.2 t1 t2 c) :: news) → AllLt D news → Q (.ref D) { s with heap := h', toks := tk' }
/-- the written pair of noughts -/
abbrev Ret0 (news : Led) (h₀ : Heap) (L : Addr) (m : Str → Option Value) (s : Shared) (Q : Value → Shared → Prop) : Prop :=
  ∀ (h' : Heap) (tk' : Nat), Fr h₀ L h' m → News h₀ L h' news → Q (.ref 47) { s with heap := h', toks := tk' }
/-- a new pair, or the written one -/
abbrev RetP (news : Led) (x : Int × Int) (h₀ : Heap) (L : Addr) (m : Str → Option Value) (s : Shared) (Q : Value → Shared → Prop) : Prop :=
  (x ≠ (0, 0) → RetN news x h₀ L m s Q) ∧ (x = (0, 0) → Ret0 news h₀ L m s Q)

/-- a while over two int names -/
abbrev mset2 (m : Str → Option Value) (y z : Str) (a : Int) (ta : Tok) (b : Int) (tb : Tok) : Str → Option Value :=
  fun x => if x = y then some (.int a ta) else if x = z then some (.int b tb) else m x

def W2End (h₀ : Heap) (L : Addr) (s : Shared) (P : Int → Int → Prop) (μ : Int → Int → Nat) (y z : Str) (m₀ : Str → Option Value) (news : Led) (Q : Flow → Shared → Prop) (a b : Int) (f : Flow) (s₂ : Shared) : Prop :=
  match f with
  | .ret v => Q (.ret v) s₂
  | .brk => Q .next s₂
  | _ => ∃ h' tk m' a' ta' b' tb', s₂ = { s with heap := h', toks := tk } ∧ Fr h₀ L h' m' ∧ News h₀ L h' news ∧ m' y = some (.int a' ta') ∧ m' z = some (.int b' tb') ∧ P a' b' ∧ μ a' b' < μ a b ∧ ∀ x, x ≠ y → x ≠ z → m' x = m₀ x

/-- the word for a while over two names -/
structure WW2 (y z : Str) (P : Int → Int → Prop) (μ : Int → Int → Nat) : Prop where
theorem while2 {prog : Program} {w : World} {A : Around} {E : Value → Shared → Prop} {Q : Flow → Shared → Prop} {s : Shared} {env : Env} {h₀ : Heap} {L : Addr} {test : Expr} {body : List Stmt} {pos : Pos} {m₀ : Str → Option Value} {news : Led} {y z : Str} {a₀ b₀ : Int} {t₀ t₁ : Tok} {P : Int → Int → Prop} {μ : Int → Int → Nat} (_ : WW2 y z P μ)
    (F : Fr h₀ L s.heap m₀) (N : News h₀ L s.heap news) (hy : m₀ y = some (.int a₀ t₀)) (hz : m₀ z = some (.int b₀ t₁)) (hi : P a₀ b₀)
    (turn : ∀ a ta b tb h tk, P a b → Fr h₀ L h (mset2 m₀ y z a ta b tb) → News h₀ L h news →
      wpAny (model prog w) A (isTrue test env (eval test env)) (fun b' s₂ =>
        if b' = true then wpAny (model prog w) A (execs body env) (W2End h₀ L s P μ y z m₀ news Q a b) E s₂ else Q .next s₂) E { s with heap := h, toks := tk })
    (hE : PassesOwn (model prog w) A env E := by passes_own) :
    wpAny (model prog w) A (exec (.While test body [] pos) env) Q E s := by
  refine While_inv2 (fun n m nx => nx = news ∧ ∃ a ta b tb, μ a b = n ∧ m y = some (.int a ta) ∧ m z = some (.int b tb) ∧ P a b ∧ ∀ x, x ≠ y → x ≠ z → m x = m₀ x) F N ⟨rfl, a₀, t₀, b₀, t₁, rfl, hy, hz, hi, fun _ _ _ => rfl⟩ ?_ hE
  rintro n m₁ nx h tk F₁ N₁ ⟨hnx, a, ta, b, tb, hsz, hya, hzb, hP, hm⟩
  rw [hnx] at N₁
  rw [← hsz]
  have e : mset2 m₀ y z a ta b tb = m₁ := by
    funext x
    show (if x = y then some (Value.int a ta) else if x = z then some (Value.int b tb) else m₀ x) = m₁ x
    by_cases h1 : x = y
    · subst h1; rw [if_pos rfl, hya]
    · rw [if_neg h1]
      by_cases h2 : x = z
      · subst h2; rw [if_pos rfl, hzb]
      · rw [if_neg h2, hm x h1 h2]
  refine wpAny_mono (turn a ta b tb h tk hP (by rw [e]; exact F₁) N₁) (fun b' s₂ q => ?_) fun _ _ x => x
  cases b' with
  | false => simpa using q
  | true =>
    simp only [if_true] at q ⊢
    refine wpAny_mono q (fun f s₃ q => ?_) fun _ _ x => x
    cases f with
    | ret v => exact q
    | brk => exact q
    | next =>
      obtain ⟨h', tk', m', a', ta', b', tb', rfl, F', N', hy', hz', hP', hs, hm'⟩ := q
      exact ⟨h', tk', m', news, _, rfl, F', N', hs, rfl, a', ta', b', tb', rfl, hy', hz', hP', hm'⟩
    | cont =>
      obtain ⟨h', tk', m', a', ta', b', tb', rfl, F', N', hy', hz', hP', hs, hm'⟩ := q
      exact ⟨h', tk', m', news, _, rfl, F', N', hs, rfl, a', ta', b', tb', rfl, hy', hz', hP', hm'⟩

theorem w2end {h₀ h' : Heap} {L : Addr} {s : Shared} {P : Int → Int → Prop} {μ : Int → Int → Nat} {y z : Str} {m₀ m' : Str → Option Value} {news : Led} {Q : Flow → Shared → Prop} {a b a' b' : Int} {ta' tb' : Tok} {tk : Nat}
    (F : Fr h₀ L h' m') (N : News h₀ L h' news) (hy : m' y = some (.int a' ta')) (hz : m' z = some (.int b' tb')) (hm : ∀ x, x ≠ y → x ≠ z → m' x = m₀ x) (hP : P a' b' ∧ μ a' b' < μ a b) :
    W2End h₀ L s P μ y z m₀ news Q a b .next { s with heap := h', toks := tk } := ⟨h', tk, m', a', ta', b', tb', rfl, F, N, hy, hz, hP.1, hP.2, hm⟩
theorem retI_of {news : Led} {x y : Int} {h₀ h' : Heap} {L : Addr} {m : Str → Option Value} {s : Shared} {Q : Value → Shared → Prop} {t : Tok} {tk' : Nat} (R : RetI news x h₀ L m s Q) (F : Fr h₀ L h' m) (N : News h₀ L h' news) (e : y = x) : Q (.int y t) { s with heap := h', toks := tk' } := by
  subst e; exact R t h' tk' F N

theorem use_ctr {prog : Program} {w : World} {p : Program} {loose : List Str} {mean : ExcName → Option Value} {mg mb : Str → Option Value} {f : Addr} {k : Nat} {news : Led} {vs : List Value}
    {Post : Heap → Addr → (Str → Option Value) → Shared → (Value → Shared → Prop) → Prop} {dp un : Nat} {gd : Option (List Code)} {cn : Str} {cs : Scope} {a : Addr} {ccd : Value} {cl : List (Str × Addr)} {outer : List Env} {A₀ : Around} {base h₀ : Heap} {L : Addr} {m : Str → Option Value} {s : Shared} {Q E : Value → Shared → Prop}
    (C : Ctr prog w p loose mean mg mb f k news vs Post) (B : Below A₀ base outer h₀) (F : Fr h₀ L s.heap m) (X : (Mine.hd.heap_1 w.params).In h₀) (N : News h₀ L s.heap news) (T : Top p loose mean mg mb h₀) (hk : cs.kind = .function) (hd : dp + k < recursionLimit) (hu : un + 8 * k < cLine)
    (hp : Post h₀ L m s Q) : wpAny (model prog w) (ktrTop dp un gd cn cs L a ccd cl outer) (call (.ref f) vs) Q E s :=
  C dp un gd cn cs a ccd cl outer A₀ base h₀ L m s Q E B F X N T hk hd hu hp
theorem allLt_sub {D : Addr} {l l' : Led} (h : AllLt D l') (hs : ∀ p ∈ l, p ∈ l') : AllLt D l := allLt_of fun p hp => ktn_ltOf h p (hs p hp)
theorem retN_of {news news' : Led} {x X : Int × Int} {t1 t2 : Tok} {c : Nat} {D : Addr} {h₀ h' : Heap} {L : Addr} {m : Str → Option Value} {s : Shared} {Q : Value → Shared → Prop} {tk' : Nat} (R : RetN news x h₀ L m s Q) (F : Fr h₀ L h' m) (N : News h₀ L h' news') (hm : (D, pairObj X.1 X.2 t1 t2 c) ∈ news') (hs : ∀ p ∈ news, p ∈ news') (hl : AllLt D news) (e : x = X) : Q (.ref D) { s with heap := h', toks := tk' } := by
  subst e
  refine R D t1 t2 c h' tk' F (fun p hp => ?_) hl
  rcases List.mem_cons.mp hp with rfl | hp
  · exact N _ hm
  · exact N p (hs p hp)
theorem retP_of {news news' : Led} {x X : Int × Int} {t1 t2 : Tok} {c : Nat} {D : Addr} {h₀ h' : Heap} {L : Addr} {m : Str → Option Value} {s : Shared} {Q : Value → Shared → Prop} {tk' : Nat} (R : RetP news x h₀ L m s Q) (hne : X ≠ (0, 0)) (F : Fr h₀ L h' m) (N : News h₀ L h' news') (hm : (D, pairObj X.1 X.2 t1 t2 c) ∈ news') (hs : ∀ p ∈ news, p ∈ news') (hl : AllLt D news) (e : x = X) : Q (.ref D) { s with heap := h', toks := tk' } :=
  retN_of (R.1 (by rw [e]; exact hne)) F N hm hs hl e
theorem retP0_of {news news' : Led} {x X : Int × Int} {h₀ h' : Heap} {L : Addr} {m : Str → Option Value} {s : Shared} {Q : Value → Shared → Prop} {tk' : Nat} (R : RetP news x h₀ L m s Q) (h0 : X = (0, 0)) (F : Fr h₀ L h' m) (N : News h₀ L h' news') (hs : ∀ p ∈ news, p ∈ news') (e : x = X) : Q (.ref 47) { s with heap := h', toks := tk' } :=
  R.2 (by rw [e]; exact h0) h' tk' F (fun p hp => N p (hs p hp))
theorem ret0_of {news : Led} {h₀ h' : Heap} {L : Addr} {m : Str → Option Value} {s : Shared} {Q : Value → Shared → Prop} {tk' : Nat} (R : Ret0 news h₀ L m s Q) (F : Fr h₀ L h' m) (N : News h₀ L h' news) : Q (.ref 47) { s with heap := h', toks := tk' } := R h' tk' F N

theorem max2 {prog : Program} {w : World} {A : Around} {E : Value → Shared → Prop} {s : Shared} {h₀ : Heap} {L : Addr} {m : Str → Option Value} {news : Led} {a b : Int} {t u : Tok} {Q : Value → Shared → Prop} (hh : A.handled = none) (F : Fr h₀ L s.heap m) (N : News h₀ L s.heap news)
    (h : ∀ t' h' tk, Fr h₀ L h' m → News h₀ L h' news → Q (.int (max a b) t') { s with heap := h', toks := tk }) : wpAny (model prog w) A (call (.builtin "max") [.int a t, .int b u]) Q E s :=
  max_two_N hh F N fun h' tk F' N' => by
    have e : (if b > a then b else a) = max a b := by split <;> omega
    rw [e]; exact h _ h' tk F' N'
theorem min2 {prog : Program} {w : World} {A : Around} {E : Value → Shared → Prop} {s : Shared} {h₀ : Heap} {L : Addr} {m : Str → Option Value} {news : Led} {a b : Int} {t u : Tok} {Q : Value → Shared → Prop} (hh : A.handled = none) (F : Fr h₀ L s.heap m) (N : News h₀ L s.heap news)
    (h : ∀ t' h' tk, Fr h₀ L h' m → News h₀ L h' news → Q (.int (min a b) t') { s with heap := h', toks := tk }) : wpAny (model prog w) A (call (.builtin "min") [.int a t, .int b u]) Q E s :=
  min_two_N hh F N fun h' tk F' N' => by
    have e : (if b < a then b else a) = min a b := by split <;> omega
    rw [e]; exact h _ h' tk F' N'

theorem pair_it0 {prog : Program} {w : World} {A : Around} {E : Value → Shared → Prop} {s : Shared} {h₀ : Heap} {L X : Addr} {news : Led} {x0 x1 : Int} {t1 t2 u : Tok} {c : Nat} {value slice : PySem.Expr} {Q : Value → Shared → Prop} (N : News h₀ L s.heap news) (hm : (X, pairObj x0 x1 t1 t2 c) ∈ news) (h : Q (.int x0 t1) s)
    (hs : subscripted slice false (.ref X) (.int 0 u) = operate [.ref X, .int 0 u] (getItem (.ref X) (.int 0 u)) := by with_unfolding_all rfl) :
    wpAny (model prog w) A (subscriptTail value slice (.ref X) (.int 0 u)) Q E s :=
  item_tupleT (j := 0) (News.isTup N (items := #[.int x0 t1, .int x1 t2]) (n := c) hm) (by decide) (by decide) rfl rfl h hs
theorem pair_it1 {prog : Program} {w : World} {A : Around} {E : Value → Shared → Prop} {s : Shared} {h₀ : Heap} {L X : Addr} {news : Led} {x0 x1 : Int} {t1 t2 u : Tok} {c : Nat} {value slice : PySem.Expr} {Q : Value → Shared → Prop} (N : News h₀ L s.heap news) (hm : (X, pairObj x0 x1 t1 t2 c) ∈ news) (h : Q (.int x1 t2) s)
    (hs : subscripted slice false (.ref X) (.int 1 u) = operate [.ref X, .int 1 u] (getItem (.ref X) (.int 1 u)) := by with_unfolding_all rfl) :
    wpAny (model prog w) A (subscriptTail value slice (.ref X) (.int 1 u)) Q E s :=
  item_tupleT (j := 1) (News.isTup N (items := #[.int x0 t1, .int x1 t2]) (n := c) hm) (by decide) (by decide) rfl rfl h hs

theorem abs_ne {u : Int} (h : u ≠ 0) : (if u < 0 then -u else u) ≠ 0 := by split <;> omega

theorem retI2 {news news' : Led} {x y : Int} {h₀ h' : Heap} {L : Addr} {m : Str → Option Value} {s : Shared} {Q : Value → Shared → Prop} {t : Tok} {tk' : Nat} (R : RetI news x h₀ L m s Q) (F : Fr h₀ L h' m) (N : News h₀ L h' news') (hs : ∀ p ∈ news, p ∈ news') (e : y = x) : Q (.int y t) { s with heap := h', toks := tk' } := by
  subst e; exact R t h' tk' F fun p hp => N p (hs p hp)

/-- a statement that stores one int alone: its ways meet -/
def JPost (h₀ : Heap) (L : Addr) (s : Shared) (m₀ : Str → Option Value) (news : Led) (x : Str) (R : Int) (f : Flow) (s₂ : Shared) : Prop :=
  f = .next ∧ ∃ h' tk m' t', s₂ = { s with heap := h', toks := tk } ∧ Fr h₀ L h' m' ∧ News h₀ L h' news ∧ m' x = some (.int R t') ∧ ∀ y, y ≠ x → m' y = m₀ y
structure JW (x : Str) (R : Int) : Prop where
theorem jpost {h₀ h' : Heap} {L : Addr} {s : Shared} {m₀ m' : Str → Option Value} {news news' : Led} {x : Str} {R r : Int} {tk : Nat} {t' : Tok} (F : Fr h₀ L h' m') (N : News h₀ L h' news') (hs : ∀ p ∈ news, p ∈ news') (hx : m' x = some (.int r t')) (hm : ∀ y, y ≠ x → m' y = m₀ y) (e : r = R) :
    JPost h₀ L s m₀ news x R .next { s with heap := h', toks := tk } := ⟨rfl, h', tk, m', t', rfl, F, fun p hp => N p (hs p hp), e ▸ hx, hm⟩
theorem join_st {prog : Program} {w : World} {A : Around} {E : Value → Shared → Prop} {Q : Flow → Shared → Prop} {s : Shared} {env : Env} {h₀ : Heap} {L : Addr} {st : Stmt} {m₀ : Str → Option Value} {news : Led} {x : Str} {R : Int}
    (F : Fr h₀ L s.heap m₀) (N : News h₀ L s.heap news) (h1 : wpAny (model prog w) A (exec st env) (JPost h₀ L s m₀ news x R) E s)
    (h2 : ∀ h' tk t', Fr h₀ L h' (fun y => if y = x then some (.int R t') else m₀ y) → News h₀ L h' news → Q .next { s with heap := h', toks := tk }) : wpAny (model prog w) A (exec st env) Q E s := by
  refine wpAny_mono h1 (fun f s₂ q => ?_) fun _ _ x => x
  obtain ⟨rfl, h', tk, m', t', rfl, F', N', hx, hm⟩ := q
  refine h2 h' tk t' ?_ N'
  have e : (fun y => if y = x then some (Value.int R t') else m₀ y) = m' := by
    funext y
    by_cases h : y = x
    · subst h; rw [if_pos rfl, hx]
    · rw [if_neg h, hm y h]
  rw [e]; exact F'
theorem join_if {prog : Program} {w : World} {A : Around} {E : Value → Shared → Prop} {Q : Flow → Shared → Prop} {s : Shared} {env : Env} {h₀ : Heap} {L : Addr} {test v : Expr} {op : Operator} {p1 p2 pos : Pos} {m₀ : Str → Option Value} {news : Led} {x : Str} {R : Int} (_ : JW x R)
    (F : Fr h₀ L s.heap m₀) (N : News h₀ L s.heap news) (h1 : wpAny (model prog w) A (exec (.If test [.AugAssign (.Name x p1) op v p2] [] pos) env) (JPost h₀ L s m₀ news x R) E s)
    (h2 : ∀ h' tk t', Fr h₀ L h' (fun y => if y = x then some (.int R t') else m₀ y) → News h₀ L h' news → Q .next { s with heap := h', toks := tk }) : wpAny (model prog w) A (exec (.If test [.AugAssign (.Name x p1) op v p2] [] pos) env) Q E s := join_st F N h1 h2
theorem join_as {prog : Program} {w : World} {A : Around} {E : Value → Shared → Prop} {Q : Flow → Shared → Prop} {s : Shared} {env : Env} {h₀ : Heap} {L : Addr} {t b o : Expr} {p1 p2 pos : Pos} {m₀ : Str → Option Value} {news : Led} {x : Str} {R : Int} (_ : JW x R)
    (F : Fr h₀ L s.heap m₀) (N : News h₀ L s.heap news) (h1 : wpAny (model prog w) A (exec (.Assign [.Name x p1] (.IfExp t b o p2) pos) env) (JPost h₀ L s m₀ news x R) E s)
    (h2 : ∀ h' tk t', Fr h₀ L h' (fun y => if y = x then some (.int R t') else m₀ y) → News h₀ L h' news → Q .next { s with heap := h', toks := tk }) : wpAny (model prog w) A (exec (.Assign [.Name x p1] (.IfExp t b o p2) pos) env) Q E s := join_st F N h1 h2

end Mine

theorem Mine.lines_base : True := by
  k_with "call ref" => (k_here; (with_reducible (first | show wpAny _ _ (call (Value.ref 82) _) _ _ _ | show wpAny _ _ (call (Value.ref 89) _) _ _ _ | show wpAny _ _ (call (Value.ref 96) _) _ _ _ | show wpAny _ _ (call (Value.ref 188) _) _ _ _)); refine wpAny_call ?_; k_dflt (refine' code_def ?k1qq ?k2qq ?k3qq ?k4qq ?k5qq ?kAqq ?kFqq ?kKqq ?k6qq ?k7qq ?k8qq ?k9qq ?kBqq ?_ ?c2qq ?c3qq ?c4qq ?c5qq; (case kAqq => exact rfl); (case kFqq => exact rfl); (case kKqq => first | exact rfl | assumption); (case k1qq => k_asm); (case k2qq => k_asm); (case k3qq => k_asm); (case k4qq => k_asm); (case k5qq => k_asm); (case k6qq => k_is); (case k7qq => k_is); (case k8qq => ktr_room); (case k9qq => exact BindsTo.of_eq rfl); (case c5qq => decide); (case kBqq => exact locs rfl); (case c2qq => exact rfl); (case c3qq => exact rfl); (case c4qq => exact rfl); k_whole; intro gzz' Lzz' hzz' FGzz' Fzz' Nzz' Bzz' Xzz' Tzz'; (try dsimp only); (try k_lift Bzz'); (try k_fold)))
  k_with "exec While" => (k_here; k_dflt (refine' Mine.while2 ?kwqq ?k1qq ?k2qq ?k3qq ?k4qq ?_ ?_; (case kwqq => assumption); (case k1qq => k_asm); (case k2qq => k_asm); (case k3qq => rfl); (case k4qq => rfl)); (all_goals skip); rotate_left; (focus ((intro azz' tazz' bzz' tbzz' hzz' tkzz' hPzz' Fzz' Nzz'); (try k_sweep))))
  k_with "exec While Compare cons nil" => (k_here; k_dflt (refine' Mine.while2 ?kwqq ?k1qq ?k2qq ?k3qq ?k4qq ?_ ?_; (case kwqq => assumption); (case k1qq => k_asm); (case k2qq => k_asm); (case k3qq => rfl); (case k4qq => rfl)); (all_goals skip); rotate_left; (focus ((intro azz' tazz' bzz' tbzz' hzz' tkzz' hPzz' Fzz' Nzz'); (try k_sweep))))
  k_with "tb_start" => repeat' (first | (with_reducible assumption) | with_reducible apply Mine.CB.pow10 | with_reducible apply Mine.CB.mul | with_reducible apply Mine.CB.add | with_reducible apply Mine.CB.sub | with_reducible apply Mine.CB.neg | with_reducible apply Mine.CB.max | with_reducible apply Mine.CB.ite | with_reducible apply Mine.CB.pow | with_reducible apply Mine.CB.fdiv | with_reducible apply Mine.CB.fmod | (refine Mine.CB.of_lt (k := 20) ?_; omega) | fail "tb_start")
  k_with "binaryOp Pow int int" => (k_here; (with_reducible refine pow_int_small ?_ ?_ ?_ ?_); (first | omega | assumption); (first | omega | assumption); (first | decide | omega))
  k_with "binaryOp Mult int int" => (k_here; (with_reducible refine' mul_int ?_ (Mine.mulOk_of_cb ?haqq ?hbqq ?hkqq)); (case haqq => k_extra "tb_start"); (case hbqq => k_extra "tb_start"); (case hkqq => omega))
  k_with "binaryOp FloorDiv int int" => (k_here; (with_reducible refine' floordiv_int ?kbeqq ?_ (Or.inl (Mine.noPy_of_cb ?kbpqq ?kbkqq))); (case kbeqq => first | assumption | omega | exact Mine.pow10_ne _ | exact Mine.abs_ne (by assumption)); (case kbpqq => k_extra "tb_start"); (case kbkqq => omega))
  k_with "binaryOp Mod int int" => (k_here; (with_reducible refine' mod_int' ?kbeqq ?_); (case kbeqq => first | assumption | omega | exact Mine.pow10_ne _ | exact Mine.abs_ne (by assumption)))
  k_with "call builtin:divmod" => (k_here; k_dflt (refine' divmod_N ?k1qq ?k2qq ?kbeqq ?_ (Or.inl (Mine.noPy_of_cb ?kbpqq ?kbkqq)); (case k1qq => k_asm); (case k2qq => k_asm); (case kbeqq => first | assumption | omega | exact Mine.pow10_ne _ | exact Mine.abs_ne (by assumption)); (case kbpqq => k_extra "tb_start"); (case kbkqq => omega)); intro hzz' Fzz' Nzz'; (try k_sweep))
  k_with "call builtin:max" => (k_here; (with_reducible show wpAny _ _ (call (Value.builtin _) [Value.int _ _, Value.int _ _]) _ _ _); k_dflt (refine' Mine.max2 ?k0qq ?k1qq ?k2qq ?_; (case k0qq => with_unfolding_all rfl); (case k1qq => k_asm); (case k2qq => k_asm)); intro tzz' hzz' tkzz' Fzz' Nzz'; (try k_sweep))
  k_with "call builtin:min" => (k_here; (with_reducible show wpAny _ _ (call (Value.builtin _) [Value.int _ _, Value.int _ _]) _ _ _); k_dflt (refine' Mine.min2 ?k0qq ?k1qq ?k2qq ?_; (case k0qq => with_unfolding_all rfl); (case k1qq => k_asm); (case k2qq => k_asm)); intro tzz' hzz' tkzz' Fzz' Nzz'; (try k_sweep))
  k_with "tb_rel" => with_reducible (repeat (first | assumption | exact List.mem_cons_self | apply List.mem_cons_of_mem))
  k_with "subscriptTail" => (k_here; (with_reducible show wpAny _ _ (subscriptTail _ _ (Value.ref _) (Value.int 0 _)) _ _ _); k_dflt (refine' Mine.pair_it0 ?k1qq ?k2qq ?_; (case k1qq => k_asm); (case k2qq => k_extra "tb_rel")))
  k_with "subscriptTail" => (k_here; (with_reducible show wpAny _ _ (subscriptTail _ _ (Value.ref _) (Value.int 1 _)) _ _ _); k_dflt (refine' Mine.pair_it1 ?k1qq ?k2qq ?_; (case k1qq => k_asm); (case k2qq => k_extra "tb_rel")))
  k_with "exec If" => (k_here; (with_reducible show wpAny _ _ (exec (Stmt.If _ [Stmt.AugAssign _ _ _ _] [] _) _) _ _ _); (fail_if_success (with_reducible show wpAny _ _ _ (Mine.JPost _ _ _ _ _ _ _) _ _)); k_dflt (refine' Mine.join_if ?kwqq ?k1qq ?k2qq ?_ ?_; (case kwqq => assumption); (case k1qq => k_asm); (case k2qq => k_asm)); (all_goals skip); rotate_left; (focus ((intro hzz' tkzz' tzz' Fzz' Nzz'); (try k_sweep))))
  k_with "exec Assign" => (k_here; (with_reducible show wpAny _ _ (exec (Stmt.Assign [Expr.Name _ _] (Expr.IfExp _ _ _ _) _) _) _ _ _); (fail_if_success (with_reducible show wpAny _ _ _ (Mine.JPost _ _ _ _ _ _ _) _ _)); k_dflt (refine' Mine.join_as ?kwqq ?k1qq ?k2qq ?_ ?_; (case kwqq => assumption); (case k1qq => k_asm); (case k2qq => k_asm)); (all_goals skip); rotate_left; (focus ((intro hzz' tkzz' tzz' Fzz' Nzz'); (try k_sweep))))
  k_with "exec If Compare cons nil" => (k_here; (with_reducible show wpAny _ _ (exec (Stmt.If _ [Stmt.AugAssign _ _ _ _] [] _) _) _ _ _); (fail_if_success (with_reducible show wpAny _ _ _ (Mine.JPost _ _ _ _ _ _ _) _ _)); k_dflt (refine' Mine.join_if ?kwqq ?k1qq ?k2qq ?_ ?_; (case kwqq => assumption); (case k1qq => k_asm); (case k2qq => k_asm)); (all_goals skip); rotate_left; (focus ((intro hzz' tkzz' tzz' Fzz' Nzz'); (try k_sweep))))
  k_with "exec If BoolOp cons nil" => (k_here; (with_reducible show wpAny _ _ (exec (Stmt.If _ [Stmt.AugAssign _ _ _ _] [] _) _) _ _ _); (fail_if_success (with_reducible show wpAny _ _ _ (Mine.JPost _ _ _ _ _ _ _) _ _)); k_dflt (refine' Mine.join_if ?kwqq ?k1qq ?k2qq ?_ ?_; (case kwqq => assumption); (case k1qq => k_asm); (case k2qq => k_asm)); (all_goals skip); rotate_left; (focus ((intro hzz' tkzz' tzz' Fzz' Nzz'); (try k_sweep))))
  k_with "exec Assign cons IfExp" => (k_here; (with_reducible show wpAny _ _ (exec (Stmt.Assign [Expr.Name _ _] (Expr.IfExp _ _ _ _) _) _) _ _ _); (fail_if_success (with_reducible show wpAny _ _ _ (Mine.JPost _ _ _ _ _ _ _) _ _)); k_dflt (refine' Mine.join_as ?kwqq ?k1qq ?k2qq ?_ ?_; (case kwqq => assumption); (case k1qq => k_asm); (case k2qq => k_asm)); (all_goals skip); rotate_left; (focus ((intro hzz' tkzz' tzz' Fzz' Nzz'); (try k_sweep))))
  trivial

theorem Mine.off_tok : True := by
  w_top off
  trivial

namespace Mine
/-- a statement begins with whatever count of tokens: the library's own line for this looks through the whole goal, seconds a time -/
theorem tok_cons {M : Model} {A : Around} {E : Value → Shared → Prop} {Q : Flow → Shared → Prop} {st : Stmt} {rest : List Stmt} {env : Env} {a : Heap} {b : Array GenState} {c : Drawn} {X : Nat} {e : OsState}
    (h : ∀ tk, wpAny M A (exec st env) (fun f s' => match f with | .next => wpAny M A (execs rest env) Q E s' | f => Q f s') E ⟨a, b, c, tk, e⟩) : wpAny M A (execs (st :: rest) env) Q E ⟨a, b, c, X, e⟩ := wpAny_execs_cons (h X)
theorem tok_nil {M : Model} {A : Around} {E : Value → Shared → Prop} {Q : Flow → Shared → Prop} {env : Env} {a : Heap} {b : Array GenState} {c : Drawn} {X : Nat} {e : OsState}
    (h : ∀ tk, Q .next ⟨a, b, c, tk, e⟩) : wpAny M A (execs [] env) Q E ⟨a, b, c, X, e⟩ := wpAny_execs_nil (h X)
end Mine

theorem Mine.lines_tok : True := by
  k_with "execs cons" => (k_here; (with_reducible refine Mine.tok_cons ?_); intro tkzz; (try dsimp only))
  k_with "execs nil" => (k_here; (with_reducible refine Mine.tok_nil ?_); intro tkzz; (try dsimp only))
  trivial

theorem Mine.off_ev : True := by
  w_top off
  trivial

namespace Mine
/-- what an expression of ints is evaluated in: all but the count of tokens -/
structure Cx where
  prog : Program
  w : World
  A : Around
  E : Value → Shared → Prop
  env : Env
  h : Heap
  g : Array GenState
  d : Drawn
  o : OsState
/-- the names that it may read -/
structure NX where
  cn : Str
  cs : Scope
  L : Addr
  a : Addr
  ccd : Value
  cl : List (Str × Addr)
  h₀ : Heap
  m : Str → Option Value
  news : Led
abbrev NX.env (N : NX) : Env := envX N.cn N.cs N.L N.a N.ccd N.cl
structure Lo (C : Cx) (N : NX) : Prop where
  env : C.env = N.env
  fr : Fr N.h₀ N.L C.h N.m
  nw : News N.h₀ N.L C.h N.news
  fn : N.cs.kind = .function
def Ev (C : Cx) (e : Expr) (tk : Nat) (v : Value) (tk' : Nat) : Prop :=
  ∀ Q : Value → Shared → Prop, Q v ⟨C.h, C.g, C.d, tk', C.o⟩ → wpAny (model C.prog C.w) C.A (eval e C.env) Q C.E ⟨C.h, C.g, C.d, tk, C.o⟩
def EvO (C : Cx) (op : Operator) (x y : Value) (tk : Nat) (v : Value) (tk' : Nat) : Prop :=
  ∀ Q : Value → Shared → Prop, Q v ⟨C.h, C.g, C.d, tk', C.o⟩ → wpAny (model C.prog C.w) C.A (binaryOp op x y) Q C.E ⟨C.h, C.g, C.d, tk, C.o⟩
def EvC (C : Cx) (op : CmpOp) (x y : Value) (tk : Nat) (b : Bool) : Prop :=
  ∀ Q : Bool → Shared → Prop, Q b ⟨C.h, C.g, C.d, tk, C.o⟩ → wpAny (model C.prog C.w) C.A (compareOp op x y) (fun c s => wpAny (model C.prog C.w) C.A (truthy c) Q C.E s) C.E ⟨C.h, C.g, C.d, tk, C.o⟩
def EvA (C : Cx) (pos : Pos) (es : List Expr) (tk : Nat) (vs : List Value) (tk' : Nat) : Prop :=
  ∀ Q : List Value → Shared → Prop, Q vs ⟨C.h, C.g, C.d, tk', C.o⟩ → wpAny (model C.prog C.w) C.A (spliced (backTo pos (starEach es C.env))) Q C.E ⟨C.h, C.g, C.d, tk, C.o⟩
section
variable {C : Cx} {N : NX} {tk tk1 tk2 tk3 : Nat} {pos p : Pos}
theorem ev_L {x : Str} {v : Value} (lo : Lo C N) (hv : N.m x = some v) (hx : N.env.kindOf x = some .local) (hd : (x == ("__debug__" : Str)) = false) : Ev C (.Name x pos) tk v tk := fun Q h => by
  rw [lo.env]; exact nameX_L lo.fr hv h lo.fn hx hd
theorem ev_C {x : Str} {v : Value} {c : Addr} {o : Obj} (lo : Lo C N) (hc : N.cl.lookup x = some c) (hm : (c, o) ∈ N.news) (hd : o.data = .cell (some v)) (hx : N.env.kindOf x = some .cell) (hb : (x == ("__debug__" : Str)) = false) : Ev C (.Name x pos) tk v tk := fun Q h => by
  rw [lo.env]; exact nameX_C lo.nw hc hm hd h lo.fn hx hb
theorem ev_int {i : Int} {k : Nat} : Ev C (.Constant (.int i) k pos) tk (.int i tk) (tk + 1) := fun _ h => wpAny_Constant_int h
theorem ev_bin {l r : Expr} {op : Operator} {x y v : Value} (hl : Ev C l tk x tk1) (hr : Ev C r tk1 y tk2) (ho : EvO C op x y tk2 v tk3) : Ev C (.BinOp l op r pos) tk v tk3 := fun Q h => wpAny_BinOp (hl _ (hr _ (ho Q h)))
theorem ev_neg {e : Expr} {i : Int} {t : Tok} (he : Ev C e tk (.int i t) tk1) : Ev C (.UnaryOp .USub e pos) tk (.int (-i) tk1) (tk1 + 1) := fun Q h => UnaryOp_ (he _ (neg_int h))
theorem ev_0 {e : Expr} {k : Nat} {X : Addr} {x0 x1 : Int} {t1 t2 : Tok} {c : Nat} (lo : Lo C N) (he : Ev C e tk (.ref X) tk1) (hm : (X, pairObj x0 x1 t1 t2 c) ∈ N.news) : Ev C (.Subscript e (.Constant (.int 0) k p) pos) tk (.int x0 t1) (tk1 + 1) :=
  fun Q h => Subscript_ (he _ (wpAny_Constant_int (pair_it0 lo.nw hm h)))
theorem ev_1 {e : Expr} {k : Nat} {X : Addr} {x0 x1 : Int} {t1 t2 : Tok} {c : Nat} (lo : Lo C N) (he : Ev C e tk (.ref X) tk1) (hm : (X, pairObj x0 x1 t1 t2 c) ∈ N.news) : Ev C (.Subscript e (.Constant (.int 1) k p) pos) tk (.int x1 t2) (tk1 + 1) :=
  fun Q h => Subscript_ (he _ (wpAny_Constant_int (pair_it1 lo.nw hm h)))
theorem evo_add {x y : Int} {t u : Tok} : EvO C .Add (.int x t) (.int y u) tk (.int (x + y) tk) (tk + 1) := fun _ h => add_int h
theorem evo_sub {x y : Int} {t u : Tok} : EvO C .Sub (.int x t) (.int y u) tk (.int (x - y) tk) (tk + 1) := fun _ h => sub_int h
theorem evo_mul {x y : Int} {t u : Tok} {k1 k2 : Nat} (ha : CB x k1) (hb : CB y k2) (hk : k1 + k2 ≤ 10000000) : EvO C .Mult (.int x t) (.int y u) tk (.int (x * y) tk) (tk + 1) := fun _ h => mul_int h (mulOk_of_cb ha hb hk)
theorem evo_pow {x y : Int} {t u : Tok} (hn : 0 ≤ y) (hn2 : y ≤ 1000000) (ha : x.natAbs < 2 ^ 64) : EvO C .Pow (.int x t) (.int y u) tk (.int (x ^ y.toNat) tk) (tk + 1) := fun _ h => pow_int_small hn hn2 ha h
theorem evo_mod {x y : Int} {t u : Tok} (hb : y ≠ 0) : EvO C .Mod (.int x t) (.int y u) tk (.int (x.fmod y) tk) (tk + 1) := fun _ h => mod_int' hb h
theorem evc_lt {x y : Int} {t u : Tok} : EvC C .Lt (.int x t) (.int y u) tk (decide (x < y)) := fun _ h => lt_int (wpAny_truthy_bool h)
theorem evc_gt {x y : Int} {t u : Tok} : EvC C .Gt (.int x t) (.int y u) tk (decide (x > y)) := fun _ h => gt_int (wpAny_truthy_bool h)
theorem evc_eq {x y : Int} {t u : Tok} : EvC C .Eq (.int x t) (.int y u) tk (x == y) := fun _ h => eq_int (wpAny_truthy_bool h)
theorem evc_ne {x y : Int} {t u : Tok} : EvC C .NotEq (.int x t) (.int y u) tk (x != y) := fun _ h => ne_int (wpAny_truthy_bool h)
theorem eva_nil : EvA C pos [] tk [] tk := fun _ h => args_nil h
theorem eva_cons {e : Expr} {es : List Expr} {v : Value} {vs : List Value} (he : Ev C e tk v tk1) (hs : EvA C pos es tk1 vs tk2) (hq : starEach (e :: es) C.env = (false, eval e C.env) :: starEach es C.env) : EvA C pos (e :: es) tk (v :: vs) tk2 := fun Q h => args_cons (he _ (hs _ h)) hq
end
section
variable {prog : Program} {w : World} {A : Around} {E : Value → Shared → Prop} {cn : Str} {cs : Scope} {L a : Addr} {ccd : Value} {cl : List (Str × Addr)} {h h₀ : Heap} {g : Array GenState} {d : Drawn} {o : OsState} {m : Str → Option Value} {news : Led} {tk tk1 tk2 : Nat}
theorem ev_use {e : Expr} {v : Value} {Q : Value → Shared → Prop} (F : Fr h₀ L h m) (N : News h₀ L h news) (hk : cs.kind = .function)
    (H : ∀ C : Cx, Lo C ⟨cn, cs, L, a, ccd, cl, h₀, m, news⟩ → Ev C e tk v tk1) (hQ : Q v ⟨h, g, d, tk1, o⟩) : wpAny (model prog w) A (eval e (envX cn cs L a ccd cl)) Q E ⟨h, g, d, tk, o⟩ :=
  H ⟨prog, w, A, E, envX cn cs L a ccd cl, h, g, d, o⟩ ⟨rfl, F, N, hk⟩ Q hQ
theorem eva_use {e : Expr} {es : List Expr} {pos : Pos} {vs : List Value} {Q : List Value → Shared → Prop} (F : Fr h₀ L h m) (N : News h₀ L h news) (hk : cs.kind = .function)
    (H : ∀ C : Cx, Lo C ⟨cn, cs, L, a, ccd, cl, h₀, m, news⟩ → EvA C pos (e :: es) tk vs tk1) (hQ : Q vs ⟨h, g, d, tk1, o⟩) : wpAny (model prog w) A (spliced (backTo pos (starEach (e :: es) (envX cn cs L a ccd cl)))) Q E ⟨h, g, d, tk, o⟩ :=
  H ⟨prog, w, A, E, envX cn cs L a ccd cl, h, g, d, o⟩ ⟨rfl, F, N, hk⟩ Q hQ
theorem evt_use {l r : Expr} {op : CmpOp} {pos : Pos} {whole : Sem Value} {x y : Value} {b : Bool} {Q : Bool → Shared → Prop} (F : Fr h₀ L h m) (N : News h₀ L h news) (hk : cs.kind = .function)
    (H : ∀ C : Cx, Lo C ⟨cn, cs, L, a, ccd, cl, h₀, m, news⟩ → Ev C l tk x tk1 ∧ Ev C r tk1 y tk2 ∧ EvC C op x y tk2 b) (hm : behindInMarks op r = false) (hQ : Q b ⟨h, g, d, tk2, o⟩) :
    wpAny (model prog w) A (isTrue (.Compare l [op] [r] pos) (envX cn cs L a ccd cl) whole) Q E ⟨h, g, d, tk, o⟩ :=
  have K := H ⟨prog, w, A, E, envX cn cs L a ccd cl, h, g, d, o⟩ ⟨rfl, F, N, hk⟩
  wpAny_isTrue_Compare1 (K.1 _ (K.2.1 _ (K.2.2 Q hQ))) hm
end
end Mine

theorem Mine.lines_ev : True := by
  k_with "kct_strs" => first | (with_reducible exact Mine.evo_add) | (with_reducible exact Mine.evo_sub) | ((with_reducible refine' Mine.evo_mul ?haqq ?hbqq ?hkqq); (case haqq => k_extra "tb_start"); (case hbqq => k_extra "tb_start"); (case hkqq => first | decide | omega)) | ((with_reducible refine' Mine.evo_pow ?haqq ?hbqq ?hkqq); (case haqq => first | omega | assumption); (case hbqq => first | omega | assumption); (case hkqq => first | decide | omega)) | ((with_reducible refine Mine.evo_mod ?_); first | assumption | omega | exact Mine.pow10_ne _ | exact Mine.abs_ne (by assumption))
  k_with "kbo_bools" => first | ((with_reducible apply Mine.ev_L); (case lo => with_reducible assumption); (case hx => exact rfl); (case hv => exact rfl); (case hd => decide)) | (with_reducible exact Mine.ev_int) | ((with_reducible apply Mine.ev_bin); (case hl => k_extra "kbo_bools"); (case hr => k_extra "kbo_bools"); (case ho => k_extra "kct_strs")) | ((with_reducible apply Mine.ev_C); (case lo => with_reducible assumption); (case hx => exact rfl); (case hc => exact rfl); (case hm => k_extra "lcg_sub"); (case hd => k_asm); (case hb => decide)) | ((with_reducible apply Mine.ev_neg); (case he => k_extra "kbo_bools")) | ((with_reducible apply Mine.ev_0); (case lo => with_reducible assumption); (case he => k_extra "kbo_bools"); (case hm => k_extra "tb_rel")) | ((with_reducible apply Mine.ev_1); (case lo => with_reducible assumption); (case he => k_extra "kbo_bools"); (case hm => k_extra "tb_rel"))
  k_with "kat_tups" => first | (with_reducible exact Mine.eva_nil) | ((with_reducible apply Mine.eva_cons); (case he => k_extra "kbo_bools"); (case hs => k_extra "kat_tups"); (case hq => exact rfl))
  k_with "eval BinOp" => (k_here; (try dsimp only); k_dflt (refine' Mine.ev_use ?Fqq ?Nqq ?hkqq ?Hqq ?_; (case Fqq => k_asm); (case Nqq => k_asm); (case hkqq => exact rfl); (case Hqq => (intro Czz lozz; k_extra "kbo_bools"))))
  k_with "eval UnaryOp" => (k_here; (try dsimp only); k_dflt (refine' Mine.ev_use ?Fqq ?Nqq ?hkqq ?Hqq ?_; (case Fqq => k_asm); (case Nqq => k_asm); (case hkqq => exact rfl); (case Hqq => (intro Czz lozz; k_extra "kbo_bools"))))
  k_with "eval Subscript" => (k_here; (try dsimp only); k_dflt (refine' Mine.ev_use ?Fqq ?Nqq ?hkqq ?Hqq ?_; (case Fqq => k_asm); (case Nqq => k_asm); (case hkqq => exact rfl); (case Hqq => (intro Czz lozz; k_extra "kbo_bools"))))
  k_with "spliced" => (k_here; (try dsimp only); k_dflt (refine' Mine.eva_use ?Fqq ?Nqq ?hkqq ?Hqq ?_; (case Fqq => k_asm); (case Nqq => k_asm); (case hkqq => exact rfl); (case Hqq => (intro Czz lozz; k_extra "kat_tups"))); (try simp only [List.cons_append, List.nil_append]))
  k_with "isTrue Compare" => (k_here; (try dsimp only); k_dflt (refine' Mine.evt_use ?Fqq ?Nqq ?hkqq ?Hqq ?hmqq ?_; (case Fqq => k_asm); (case Nqq => k_asm); (case hkqq => exact rfl); (case Hqq => (intro Czz lozz; refine ⟨?_, ?_, ?_⟩; k_extra "kbo_bools"; k_extra "kbo_bools"; first | (with_reducible exact Mine.evc_lt) | (with_reducible exact Mine.evc_gt) | (with_reducible exact Mine.evc_eq) | (with_reducible exact Mine.evc_ne))); (case hmqq => with_unfolding_all rfl)))
  k_with "eval Name" => (k_here; k_dflt (first | (refine' nameX_L ?Fqq ?vqq ?_ ?aqq ?bqq; (case bqq => exact rfl); (case aqq => exact rfl); (case Fqq => k_asm); (case vqq => exact rfl); k_whole) | (refine' nameX_K ?Fqq ?Xqq ?Tqq ?eqq ?_ ?aqq ?bqq; (case bqq => exact rfl); (case aqq => exact rfl); (case Fqq => k_asm); (case Xqq => k_asm); (case Tqq => k_asm); (case eqq => k_is); k_whole) | (refine' nameX_B ?Fqq ?Xqq ?Tqq ?eqq ?vqq ?nqq ?_ ?aqq ?bqq; (case bqq => exact rfl); (case aqq => exact rfl); (case Fqq => k_asm); (case Xqq => k_asm); (case Tqq => k_asm); (case eqq => k_is); (case vqq => boot_fast); (case nqq => decide); k_whole)))
  trivial

theorem Mine.off_count : True := by
  w_top off
  trivial

namespace Mine
section
variable {prog : Program} {w : World} {p : Program} {loose : List Str} {mean : ExcName → Option Value} {mg mb : Str → Option Value}

theorem count_start (n : Int) : 0 ≤ (if n < 0 then -n else n) ∧ cd (if n < 0 then -n else n) + 0 = cd n := by
  split
  · exact ⟨by omega, by rw [cd_neg]; omega⟩
  · exact ⟨by omega, by omega⟩

theorem count_t1 {a b n : Int} (hP : 0 ≤ a ∧ cd a + b = cd n) (h : 1000000000 ≤ a) : (0 ≤ a.fdiv 1000000000 ∧ cd (a.fdiv 1000000000) + (b + 9) = cd n) ∧ (a.fdiv 1000000000).toNat < a.toNat := by
  have x := cd_turn1 hP.1 h hP.2
  exact ⟨⟨x.1, x.2.1⟩, x.2.2⟩
theorem count_t2 {a b n : Int} (hP : 0 ≤ a ∧ cd a + b = cd n) (h : 0 < a) : (0 ≤ a.fdiv 10 ∧ cd (a.fdiv 10) + (b + 1) = cd n) ∧ (a.fdiv 10).toNat < a.toNat := by
  have x := cd_turn2 hP.1 h hP.2
  exact ⟨⟨x.1, x.2.1⟩, x.2.2⟩
theorem count_e {a b n : Int} (hP : 0 ≤ a ∧ cd a + b = cd n) (h : ¬ 0 < a) : b = cd n := by
  have : a = 0 := by omega
  subst this
  rw [cd_zero] at hP
  omega

set_option maxHeartbeats 4000000 in
theorem ct_count (news : Led) (n : Int) (t : Tok) :
    Ctr prog w p loose mean mg mb 54 2 news [.int n t] (RetI news (cd n)) := by
  unfold Ctr
  intro dp un gd cn cs a ccd cl outer A₀ base h₀ L m s Q E B F X N T hk hd hu hret
  have hW : WW2 "n" "count" (fun a b => 0 ≤ a ∧ cd a + b = cd n) (fun a _ => a.toNat) := WW2.mk
  refine wpAny_call ?_
  k_dflt cell_enter
  k_steps
  all_goals (try (k_dflt (refine' w2end ?k1 ?k2 ?k3 ?k4 ?k5 ?_; (case k1 => k_asm); (case k2 => k_asm); (case k3 => rfl); (case k4 => rfl); (case k5 => (intro x h1 h2; simp only [mset2, if_neg h1, if_neg h2])))))
  · exact count_t1 (by assumption) (by assumption)
  · exact count_t2 (by assumption) (by assumption)
  · refine retI_of hret (by k_asm) (by k_asm) (count_e (by assumption) (by assumption))
  · exact (by assumption : _ ∧ _).2
  · exact (count_start n).2
end
end Mine


theorem Mine.lines_count : True := by
  k_with "call ref" => (k_here; (with_reducible show wpAny _ _ (call (Value.ref 54) _) _ _ _); k_dflt (refine' Mine.use_ctr (Mine.ct_count _ _ _) ?k1qq ?k2qq ?k3qq ?k4qq ?k5qq ?kKqq ?kdqq ?kuqq ?_; (case k1qq => k_asm); (case k2qq => k_asm); (case k3qq => k_asm); (case k4qq => k_asm); (case k5qq => k_asm); (case kKqq => first | exact rfl | assumption); (case kdqq => ktr_room); (case kuqq => ktr_units)); intro t9zz h9zz tk9zz F9zz N9zz; (try dsimp only); (try k_fold); (try k_sweep))
  trivial

theorem Mine.off_stripz : True := by
  w_top off
  trivial

namespace Mine
section
variable {prog : Program} {w : World} {p : Program} {loose : List Str} {mean : ExcName → Option Value} {mg mb : Str → Option Value}

theorem strip_is0 {x y : Int} (h : x = 0) : strip x y = (0, 0) := by rw [h]; exact strip_zero y
theorem strip_t {a b x y : Int} (hP : a ≠ 0 ∧ strip a b = strip x y) (h : a.fmod 10 = 0) : (a.fdiv 10 ≠ 0 ∧ strip (a.fdiv 10) (b + 1) = strip x y) ∧ (a.fdiv 10).natAbs < a.natAbs := by
  have q := strip_turn hP.1 h hP.2
  exact ⟨⟨q.1, q.2.1⟩, q.2.2⟩
theorem strip_fin {a b x y : Int} (hP : a ≠ 0 ∧ strip a b = strip x y) (h : ¬ a.fmod 10 = 0) : strip x y = (a, b) ∧ strip x y ≠ (0, 0) := by
  have q := strip_end hP.1 h hP.2
  refine ⟨q, ?_⟩
  rw [q]
  intro e
  exact hP.1 (congrArg Prod.fst e)
theorem strip_fin2 {a b x y : Int} (hP : a ≠ 0 ∧ strip a b = strip x y) (h : ¬ a.fmod 10 = 0) : (a, b) ≠ (0, 0) := (strip_fin hP h).1 ▸ (strip_fin hP h).2

set_option maxHeartbeats 4000000 in
theorem ct_strip (news : Led) (x y : Int) (t u : Tok) :
    Ctr prog w p loose mean mg mb 61 2 news [.int x t, .int y u] (RetP news (strip x y)) := by
  unfold Ctr
  intro dp un gd cn cs a ccd cl outer A₀ base h₀ L m s Q E B F X N T hk hd hu hret
  have hW : WW2 "m" "e" (fun a b => a ≠ 0 ∧ strip a b = strip x y) (fun a _ => a.natAbs) := WW2.mk
  refine wpAny_call ?_
  k_dflt cell_enter
  k_steps
  all_goals (try (k_dflt (refine' w2end ?k1 ?k2 ?k3 ?k4 ?k5 ?_; (case k1 => k_asm); (case k2 => k_asm); (case k3 => rfl); (case k4 => rfl); (case k5 => (intro x h1 h2; simp only [mset2, if_neg h1, if_neg h2])))))
  · exact ret0_of (hret.2 (strip_is0 (by assumption))) (by k_asm) (by k_asm)
  · exact strip_t (by assumption) (by assumption)
  · exact retP_of hret (X := (_, _)) (strip_fin2 (by assumption) (by assumption)) (by k_asm) (by k_asm) (by k_mem) (by kcj_all) (by ktn_lt) (strip_fin (by assumption) (by assumption)).1
  · assumption
end
end Mine


theorem Mine.lines_stripz : True := by
  k_with "call ref" => (k_here; (with_reducible show wpAny _ _ (call (Value.ref 61) _) _ _ _); k_dflt (refine' Mine.use_ctr (Mine.ct_strip _ _ _ _ _) ?k1qq ?k2qq ?k3qq ?k4qq ?k5qq ?kKqq ?kdqq ?kuqq ?_; (case k1qq => k_asm); (case k2qq => k_asm); (case k3qq => k_asm); (case k4qq => k_asm); (case k5qq => k_asm); (case kKqq => first | exact rfl | assumption); (case kdqq => ktr_room); (case kuqq => ktr_units)); (refine ⟨fun hp9zz D9zz t9zz u9zz c9zz h9zz tk9zz F9zz N9zz l9zz => ?_, fun hp9zz h9zz tk9zz F9zz N9zz => ?_⟩) <;> (try dsimp only) <;> (try k_fold) <;> (try k_sweep))
  trivial

theorem Mine.off_rdig : True := by
  w_top off
  trivial

namespace Mine
section
variable {prog : Program} {w : World} {p : Program} {loose : List Str} {mean : ExcName → Option Value} {mg mb : Str → Option Value}

theorem abs_parts (x : Int) (k : Nat) : (if x < 0 then -x else x).fdiv (10 ^ k) = ((x.natAbs / 10 ^ k : Nat) : Int) ∧ (if x < 0 then -x else x).fmod (10 ^ k) = ((x.natAbs % 10 ^ k : Nat) : Int) := by
  have e : (if x < 0 then -x else x) = (x.natAbs : Int) := by split <;> omega
  have p : (0 : Int) ≤ 10 ^ k := Int.le_of_lt (Int.pow_pos (by decide))
  rw [e, Int.fdiv_eq_ediv_of_nonneg _ p, Int.fmod_eq_emod_of_nonneg _ p]
  constructor
  · rw [Int.natCast_ediv, Int.natCast_pow]; rfl
  · rw [Int.natCast_emod, Int.natCast_pow]; rfl
theorem rne_up {x : Int} {k : Nat} (h : (10 : Int) ^ k < 2 * (if x < 0 then -x else x).fmod (10 ^ k) ∨ (2 * (if x < 0 then -x else x).fmod (10 ^ k) = 10 ^ k ∧ ((if x < 0 then -x else x).fdiv (10 ^ k)).fmod 2 = 1)) :
    ((rne x.natAbs (10 ^ k) : Nat) : Int) = (if x < 0 then -x else x).fdiv (10 ^ k) + 1 := by
  obtain ⟨h1, h2⟩ := abs_parts x k
  rw [h1, h2] at h
  rw [h1]
  have e : (10 : Int) ^ k = ((10 ^ k : Nat) : Int) := by rw [Int.natCast_pow]; rfl
  rw [e, Int.fmod_eq_emod_of_nonneg _ (by decide)] at h
  unfold rne
  rw [if_pos (by omega)]
  omega
theorem rne_down {x : Int} {k : Nat} (h : ¬ ((10 : Int) ^ k < 2 * (if x < 0 then -x else x).fmod (10 ^ k) ∨ (2 * (if x < 0 then -x else x).fmod (10 ^ k) = 10 ^ k ∧ ((if x < 0 then -x else x).fdiv (10 ^ k)).fmod 2 = 1))) :
    ((rne x.natAbs (10 ^ k) : Nat) : Int) = (if x < 0 then -x else x).fdiv (10 ^ k) := by
  obtain ⟨h1, h2⟩ := abs_parts x k
  rw [h1, h2] at h
  rw [h1]
  have e : (10 : Int) ^ k = ((10 ^ k : Nat) : Int) := by rw [Int.natCast_pow]; rfl
  rw [e, Int.fmod_eq_emod_of_nonneg _ (by decide)] at h
  unfold rne
  rw [if_neg (by omega)]
  omega
theorem rdig_p {x y d : Int} (h1 : 0 < cd x - d) (h : (10 : Int) ^ (cd x - d).toNat < 2 * (if x < 0 then -x else x).fmod (10 ^ (cd x - d).toNat) ∨ (2 * (if x < 0 then -x else x).fmod (10 ^ (cd x - d).toNat) = 10 ^ (cd x - d).toNat ∧ ((if x < 0 then -x else x).fdiv (10 ^ (cd x - d).toNat)).fmod 2 = 1))
    (h3 : 0 < x) : rdig x y d = strip ((if x < 0 then -x else x).fdiv (10 ^ (cd x - d).toNat) + 1) (y + (cd x - d)) := by
  unfold rdig; rw [if_pos h1, if_pos h3, rne_up h]
theorem rdig_n {x y d : Int} (h1 : 0 < cd x - d) (h : (10 : Int) ^ (cd x - d).toNat < 2 * (if x < 0 then -x else x).fmod (10 ^ (cd x - d).toNat) ∨ (2 * (if x < 0 then -x else x).fmod (10 ^ (cd x - d).toNat) = 10 ^ (cd x - d).toNat ∧ ((if x < 0 then -x else x).fdiv (10 ^ (cd x - d).toNat)).fmod 2 = 1))
    (h3 : ¬ 0 < x) : rdig x y d = strip (-((if x < 0 then -x else x).fdiv (10 ^ (cd x - d).toNat) + 1)) (y + (cd x - d)) := by
  unfold rdig; rw [if_pos h1, if_neg h3, rne_up h]
theorem rdig_p0 {x y d : Int} (h1 : 0 < cd x - d) (h : ¬ ((10 : Int) ^ (cd x - d).toNat < 2 * (if x < 0 then -x else x).fmod (10 ^ (cd x - d).toNat) ∨ (2 * (if x < 0 then -x else x).fmod (10 ^ (cd x - d).toNat) = 10 ^ (cd x - d).toNat ∧ ((if x < 0 then -x else x).fdiv (10 ^ (cd x - d).toNat)).fmod 2 = 1)))
    (h3 : 0 < x) : rdig x y d = strip ((if x < 0 then -x else x).fdiv (10 ^ (cd x - d).toNat)) (y + (cd x - d)) := by
  unfold rdig; rw [if_pos h1, if_pos h3, rne_down h]
theorem rdig_n0 {x y d : Int} (h1 : 0 < cd x - d) (h : ¬ ((10 : Int) ^ (cd x - d).toNat < 2 * (if x < 0 then -x else x).fmod (10 ^ (cd x - d).toNat) ∨ (2 * (if x < 0 then -x else x).fmod (10 ^ (cd x - d).toNat) = 10 ^ (cd x - d).toNat ∧ ((if x < 0 then -x else x).fdiv (10 ^ (cd x - d).toNat)).fmod 2 = 1)))
    (h3 : ¬ 0 < x) : rdig x y d = strip (-((if x < 0 then -x else x).fdiv (10 ^ (cd x - d).toNat))) (y + (cd x - d)) := by
  unfold rdig; rw [if_pos h1, if_neg h3, rne_down h]
theorem rdig_s {x y d : Int} (h1 : ¬ 0 < cd x - d) : rdig x y d = strip x y := by
  unfold rdig; rw [if_neg h1]

set_option maxHeartbeats 4000000 in
theorem ct_rdig (news : Led) (x y d : Int) (t u v : Tok) (hx : CB x 2600) (hd0 : 0 ≤ d) :
    Ctr prog w p loose mean mg mb 68 4 news [.int x t, .int y u, .int d v] (RetP news (rdig x y d)) := by
  unfold Ctr
  intro dp un gd cn cs a ccd cl outer A₀ base h₀ L m s Q E B F X N T hk hd hu hret
  have hx' : cd x ≤ 2600 := hx
  have hJ1 : JW (Str.ofString "kept") ((rne x.natAbs (10 ^ (cd x - d).toNat) : Nat) : Int) := JW.mk
  have hJ2 : JW (Str.ofString "m") (if x > 0 then ((rne x.natAbs (10 ^ (cd x - d).toNat) : Nat) : Int) else -((rne x.natAbs (10 ^ (cd x - d).toNat) : Nat) : Int)) := JW.mk
  refine wpAny_call ?_
  k_dflt cell_enter
  k_steps
  rotate_left 2
  · exact jpost (by k_asm) (by k_asm) (by kcj_all) rfl (fun y h => by simp only [if_neg h]) (if_pos (by assumption)).symm
  · exact jpost (by k_asm) (by k_asm) (by kcj_all) rfl (fun y h => by simp only [if_neg h]) (if_neg (by assumption)).symm
  · exact jpost (by k_asm) (by k_asm) (by kcj_all) rfl (fun y h => by simp only [if_neg h]) (rne_up (Or.inl (by assumption))).symm
  · exact jpost (by k_asm) (by k_asm) (by kcj_all) rfl (fun y h => by simp only [if_neg h]) (rne_up (Or.inr ⟨by assumption, by assumption⟩)).symm
  · exact jpost (by k_asm) (by k_asm) (by kcj_all) rfl (fun y h => by simp only [if_neg h]) (rne_down (by intro h; rcases h with h | ⟨h, h'⟩ <;> contradiction)).symm
  · exact jpost (by k_asm) (by k_asm) (by kcj_all) rfl (fun y h => by simp only [if_neg h]) (rne_down (by intro h; rcases h with h | ⟨h, h'⟩ <;> contradiction)).symm
  all_goals first
    | have e9 := rdig_s (x := x) (y := y) (d := d) (by assumption)
    | have e9 : rdig x y d = strip (if x > 0 then ((rne x.natAbs (10 ^ (cd x - d).toNat) : Nat) : Int) else -((rne x.natAbs (10 ^ (cd x - d).toNat) : Nat) : Int)) (y + (cd x - d)) := if_pos (by assumption)
  all_goals first
    | exact retP0_of hret (by assumption) (by k_asm) (by k_asm) (by kcj_all) e9
    | exact retP_of hret (by assumption) (by k_asm) (by k_asm) (by k_mem) (by kcj_all) (allLt_sub (by assumption) (by kcj_all)) e9
end
end Mine


theorem Mine.lines_rdig : True := by
  k_with "call ref" => (k_here; (with_reducible show wpAny _ _ (call (Value.ref 68) _) _ _ _); k_dflt (refine' Mine.use_ctr (Mine.ct_rdig _ _ _ _ _ _ _ ?kh1qq ?kh2qq) ?k1qq ?k2qq ?k3qq ?k4qq ?k5qq ?kKqq ?kdqq ?kuqq ?_; (case k1qq => k_asm); (case k2qq => k_asm); (case k3qq => k_asm); (case k4qq => k_asm); (case k5qq => k_asm); (case kKqq => first | exact rfl | assumption); (case kdqq => ktr_room); (case kuqq => ktr_units); (case kh1qq => (refine' Mine.CB.le ?cbaqq ?cbbqq; (case cbaqq => k_extra "tb_start"); (case cbbqq => omega))); (case kh2qq => first | assumption | omega)); (refine ⟨fun hp9zz D9zz t9zz u9zz c9zz h9zz tk9zz F9zz N9zz l9zz => ?_, fun hp9zz h9zz tk9zz F9zz N9zz => ?_⟩) <;> (try dsimp only) <;> (try k_fold) <;> (try k_sweep))
  trivial

theorem Mine.off_raise : True := by
  w_top off
  trivial

namespace Mine
abbrev tupS (vs : List Value) : Obj := { cls := .type "tuple", data := .seq vs.toArray }
abbrev excObj (t : Addr) (dd : Option Addr) : Obj := { cls := .ref 44, dict := dd, data := .fields #[.ref t, .none, .none, .none, .bool false, .none] }
abbrev bmR : List Value := [.ref 31, .type "Exception", .type "BaseException", .type "object"]
abbrev rfObj : Obj := excClassObj "RunFault" "RunFault" 44 43 [.ref 31] bmR true [] [] false none none (some (.ref 35)) none (some (.str "RunFault" 218)) (some (.str "RunFault" 226)) (some (.bool true)) "Exception.__new__"
theorem rf_at {P : Params} {h : Heap} (X : (Mine.hd.heap_1 P).In h) : h.get? 44 = some rfObj := X 44 _ (by k_is)
theorem rf_cE : (Value.ref 44 :: bmR).contains (.type "Exception") = true := by decide
theorem rf_cA : (Value.ref 44 :: bmR).contains (.type "AttributeError") = false := by decide
theorem rf_cN : (Value.ref 44 :: bmR).contains (.type "NameError") = false := by decide
theorem rf_cS : (Value.ref 44 :: bmR).contains (.ref 44) = true := by decide
theorem rf_cB : (Value.ref 44 :: bmR).contains (.type "BaseException") = true := by decide
theorem rf_cO : (Value.ref 44 :: bmR).contains (.type "object") = true := by decide

section
variable {M : Model} {A : Around} {E : Value → Shared → Prop} {h : Heap} {g : Array GenState} {d : Drawn} {t : Nat} {os : OsState}
theorem rf_check_new {rest : List Value} {Q : Unit → Shared → Prop} (hC : h.get? 44 = some rfObj) (hq : Q () ⟨h, g, d, t, os⟩) : wpAny M A (checkBuiltinCall "Exception.__new__" ⟨.ref 44 :: rest, []⟩) Q E ⟨h, g, d, t, os⟩ := by
  have F := PySem.F.excBase_Exception
  have hstar := F.noStar
  simp only [checkBuiltinCall, F.newKind, F.newSplit, F.newRow]
  repeat (first | refine wpAny_loadPart_at hC ?_ | (refine wpAny_isSubtype_exc hC ?_; rw [rf_cE]) | refine wpAny_staticBase_exc hC ?_ | refine wpAny_madeBy_exc hC ?_ | simp only [bne_self_eq_false, Bool.false_eq_true, if_false] | wp_step)
  exact hq
theorem rf_check_init {e : Addr} {oe : Obj} {rest : List Value} {Q : Unit → Shared → Prop} (hC : h.get? 44 = some rfObj) (he : h.get? e = some oe) (hcls : oe.cls = .ref 44) (hq : Q () ⟨h, g, d, t, os⟩) :
    wpAny M A (checkBuiltinCall "Exception.__init__" ⟨.ref e :: rest, []⟩) Q E ⟨h, g, d, t, os⟩ := by
  have F := PySem.F.excBase_Exception
  have hshort := F.noStar
  simp only [checkBuiltinCall, F.initKind, F.initSplit, F.initRow]
  repeat (first | (with_reducible refine wpAny_loadPart_at he ?_; rw [hcls]) | with_reducible refine wpAny_loadPart_at hC ?_ | (with_reducible refine wpAny_isSubtype_exc hC ?_; rw [rf_cE]) | wp_step)
  refine wpAny_onRaise ?_
  rw [show ∀ (a b : String) (n : Nat), Bind.check ⟨.positional, "*", "Exception", .self, [⟨"args", .varPos, false⟩]⟩ a b n (List.map (fun x => x.fst) ({ pos := Value.ref e :: rest } : Args).kw) = pure () from
    fun a b n => check_star_args _ _ _ _ _ _]
  exact wpAny_pure hq
end

section
variable {prog : Program} {w : World} {A : Around} {h : Heap} {g : Array GenState} {d : Drawn} {t : Nat} {os : OsState}
theorem rf_new {R : Result → Shared → Prop} {rest : List Value} (hC : h.get? 44 = some rfObj)
    (hq : R (.ok (.ret (.ref (h.objs.size + 1)))) ⟨(h.push (tupS rest)).push (excObj h.objs.size none), g, d, t, os⟩) (hrest : rest.length ≤ sizeLine := by size_fits) :
    codeAny (model prog w) A (.builtin "Exception.__new__" ⟨.ref 44 :: rest, []⟩) R ⟨h, g, d, t, os⟩ := by
  have F := PySem.F.excBase_Exception
  have hends := F.ends
  refine codeAny_builtinAt F.entry ?_
  unfold Builtin.«BaseException.__new__»
  refine PySem.wpAt_bind ?_
  show PySem.wpAt _ _ _ (stack >>= _) _ _ _
  refine PySem.wpAt_bind (PySem.wpAt_stack fun p below => PySem.wpAt_of_wpAny ?_)
  wp_walk
  refine PySem.wpAt_of_wpAny ?_
  rw [F.owner]
  repeat (first | with_reducible refine wpAny_madeHere_exc F.canon hC ?_ | with_reducible refine wpAny_loadPart_at hC ?_ | (with_reducible refine wpAny_isSubtype_exc hC ?_; first | rw [rf_cE] | rw [rf_cA] | rw [rf_cN]) | wp_step)
  show R _ _
  rw [Heap.size_push]
  exact hq

theorem rf_type_call {E : Value → Shared → Prop} {rest : List Value} {Q : Fin → Shared → Prop} (X : (Mine.hd.heap_1 w.params).In h)
    (hq : wpAny (model prog w) A (call (.ref 28) (.ref (h.objs.size + 1) :: rest)) (fun r s' => r = .none ∧ Q (.done (.ret (.ref (h.objs.size + 1)))) s') E ⟨(h.push (tupS rest)).push (excObj h.objs.size none), g, d, t, os⟩)
    (hrest : rest.length ≤ sizeLine := by size_fits) :
    wpAny (model prog w) A (Builtin.«type.__call__» ⟨.ref 44 :: rest, []⟩) Q E ⟨h, g, d, t, os⟩ := by
  have F := PySem.F.excBase_Exception
  have hC := rf_at X
  have X₁ : (Mine.hd.heap_1 w.params).In ((h.push (tupS rest)).push (excObj h.objs.size none)) := X.keeps fun b o e => Heap.get?_push_of_some _ (Heap.get?_push_of_some _ e)
  have hC₁ := rf_at X₁
  repeat (first | with_reducible refine wpAny_loadPart_at hC ?_ | with_reducible refine wpAny_madeBy_exc hC ?_ | wp_step)
  refine codeAny_call_builtin_code (Code.quiet_builtin _ F.quiet) (rf_check_new hC ?_)
  refine rf_new hC ?_ hrest
  show wpAny _ _ _ _ _ _
  have hget : ((h.push (tupS rest)).push (excObj h.objs.size none)).get? (h.objs.size + 1) = some (excObj h.objs.size none) := by heap_get
  unfold isInstance
  repeat (first | with_reducible refine wpAny_loadPart_at hget ?_ | (with_reducible refine wpAny_isSubtype_exc hC₁ ?_; rw [rf_cS]) | wp_step)
  show wpAny _ _ (typeLookup (.ref 44) _) _ _ _
  refine (looks_findIn X₁ (r := some (.ref 28)) (by k_is)).here ?_
  refine wpAny_holding (wpAny_bind ((bind_fn X₁ _ (by k_is)).here ?_))
  refine wpAny_bind (wpAny_mono hq (fun r s' hr => ?_) fun _ _ x => x)
  obtain ⟨rfl, hQ⟩ := hr
  wp_walk
  exact hQ

theorem rf_call0 {E : Value → Shared → Prop} {rest : List Value} {Q : Value → Shared → Prop} (X : (Mine.hd.heap_1 w.params).In h)
    (hq : wpAny (model prog w) (A.under (.builtin "type.__call__" ⟨.ref 44 :: rest, []⟩)) (call (.ref 28) (.ref (h.objs.size + 1) :: rest)) (fun r s' => r = .none ∧ Q (.ref (h.objs.size + 1)) s') E ⟨(h.push (tupS rest)).push (excObj h.objs.size none), g, d, t, os⟩)
    (hrest : rest.length ≤ sizeLine := by size_fits) :
    wpAny (model prog w) A (call (.ref 44) rest) Q E ⟨h, g, d, t, os⟩ := by
  have hC := rf_at X
  have f1 := tc_lookup
  have f2 := tc_bind (.ref 44)
  have hT : (⟨h, g, d, t, os⟩ : Shared).TypeIs (.ref 44) "type" := ⟨_, hC, rfl⟩
  refine wpAny_call (codeAny_of_tree ?_)
  show wpAny _ _ (callAny (.ref 44) _) _ _ _
  repeat (any_goals (first | assumption | with_reducible refine wpAny_loadPart_at hC ?_ | wp_step))
  refine ⟨rfl, ?_⟩
  exact codeAny_call_builtin_at (Code.quiet_builtin _ (by decide +kernel)) entry_typeCall (wpAny_check_type_call_sub hC (rf_type_call (hrest := hrest) X hq))
end
end Mine


theorem Mine.off_finit : True := by
  w_top off
  trivial

namespace Mine
section
variable {prog : Program} {w : World} {A : Around} {E : Value → Shared → Prop} {s : Shared} {h₀ : Heap} {L : Addr} {m : Str → Option Value} {news : Led}
theorem rf_getm {pl : Sem Bool} {Q : Value × List Value → Shared → Prop} (F : Fr h₀ L s.heap m) (X₀ : (Mine.hd.heap_1 w.params).In h₀)
    (h : Q (.builtin "Exception.__init__", []) { s with toks := s.toks + 1 }) :
    wpAny (model prog w) A (getMethod (.type "Exception") (PySem.Str.ofString "__init__") pl) Q E s := by
  have X := X₀.keeps F.keep
  have hstub : opaqueClassAbove (.type "Exception") = pure none := by unfold opaqueClassAbove; dsimp only; rw [show Manifest.isStub "Exception" = false by decide +kernel]; rfl
  have ht : typeOf (.type "Exception") = pure (.type "type") := by first | rfl | kernel_rfl
  have L0 : Looks (model prog w) s.heap (typeOf (.type "Exception")) (.type "type") := Looks.of_pure ht
  have hg : findIn (Mine.hd.heap_1 w.params) (.type "type") "__getattribute__" = some (some (.builtin "type.__getattribute__")) := type_tga
  have e : findCls (Mine.hd.heap_1 w.params) (.type "Exception") (.type "type") (PySem.Str.ofString "__init__") = some (.val (.builtin "Exception.__init__")) := by k_is
  unfold getMethod specialOf
  refine wpAny_bind (wpAny_bind (L0.here ((looks_findIn X hg).here ?_)))
  dsimp only
  rw [if_pos canon_tga]
  refine wpAny_bind (wpAny_mono (Q := fun v => Q (v, [])) (E := E) ?_ (fun _ _ z => wpAny_pure z) fun _ _ z => z)
  have LO : Looks (model prog w) s.heap (opaqueClassAbove (.type "Exception")) none := Looks.of_pure hstub
  refine cls_open X LO L0 hg (looks_hook X (r := none) (by rfl)) (by show subIn _ _ _ = _; rfl) e ?_
  exact wpAny_pure (by show wpAny _ _ (handedOut _) _ _ _; rw [handedOut_of (by k_handed)]; exact wpAny_pure h)

theorem upd_kept {h h' : Heap} {e : Addr} {o o' : Obj} (F : Fr h₀ L h m) (N : News h₀ L h ((e, o) :: news)) (hne : ∀ p ∈ news, p.1 ≠ e)
    (hk : ∀ b ob, b ≠ e → h.get? b = some ob → h'.get? b = some ob) (he : h'.get? e = some o') : Fr h₀ L h' m ∧ News h₀ L h' ((e, o') :: news) := by
  have D := N (e, o) (.head _)
  obtain ⟨oL, es, ep, hL, r⟩ := F.ns
  refine ⟨⟨⟨oL, es, ep, hk _ _ (Ne.symm D.2.1) hL, r⟩, fun b x q => hk _ _ (fun z => ?_) (F.keep b x q), F.above⟩, fun p hp => ?_⟩
  · have := D.2.2; rw [← z, q] at this; cases this
  · rcases List.mem_cons.mp hp with rfl | q
    · exact ⟨he, D.2⟩
    · have P := N p (.tail _ q); exact ⟨hk _ _ (hne p q) P.1, P.2⟩

theorem rf_init {e ta : Addr} {dd : Option Addr} {v : Value} {Q : Value → Shared → Prop} (F : Fr h₀ L s.heap m) (X₀ : (Mine.hd.heap_1 w.params).In h₀) (N : News h₀ L s.heap ((e, excObj ta dd) :: news)) (hne : ∀ p ∈ news, p.1 ≠ e)
    (h : ∀ h' ta', Fr h₀ L h' m → News h₀ L h' ((e, excObj ta' dd) :: news) → Q .none { s with heap := h' }) :
    wpAny (model prog w) A (call (.builtin "Exception.__init__") [.ref e, v]) Q E s := by
  have FE := PySem.F.excBase_Exception
  have X := X₀.keeps F.keep
  have he := (N (e, excObj ta dd) (.head _)).1
  obtain ⟨hh, g, d, t, os⟩ := s
  refine wpAny_call (codeAny_call_builtin FE.init.plain FE.initEntry (rf_check_init (rf_at X) he rfl ?_))
  wp_walk
  have hs : hh.objs.size ≠ e := Nat.ne_of_gt (Heap.lt_size he)
  have z := upd_kept (o' := excObj hh.objs.size dd) (h' := (hh.push (tupS [v])).update e (Obj.mapFields fun x => x.setIfInBounds 0 (Value.ref hh.objs.size))) F N hne ?_ ?_
  · exact h _ _ z.1 z.2
  · intro b ob hb q
    rw [Heap.get?_update_other _ _ (Ne.symm hb)]
    exact Heap.get?_push_of_some _ q
  · rw [Heap.get?_update_self _ (Heap.get?_push_of_some _ he) rfl]
    rfl

theorem rf_check_sa {M : Model} {A : Around} {E : Value → Shared → Prop} {h : Heap} {g : Array GenState} {d : Drawn} {t : Nat} {os : OsState} {e ta : Addr} {dd : Option Addr} {nameV v : Value} {Q : Unit → Shared → Prop} (hC : h.get? 44 = some rfObj) (hx : h.get? e = some (excObj ta dd)) (hq : Q () ⟨h, g, d, t, os⟩) :
    wpAny M A (checkBuiltinCall "object.__setattr__" ⟨[.ref e, nameV, v], []⟩) Q E ⟨h, g, d, t, os⟩ := by
  have SF := PySem.F.store_Exception
  simp only [checkBuiltinCall, SF.kind, SF.split]
  refine wpAny_bind ?_
  · unfold isInstance
    repeat (first | (with_reducible refine wpAny_loadPart_at hx ?_; dsimp only) | (with_reducible refine wpAny_isSubtype_exc hC ?_; rw [rf_cO]) | wp_step)
    exact hq

theorem rf_store {e ta : Addr} {v : Value} {Q : Unit → Shared → Prop} (F : Fr h₀ L s.heap m) (X₀ : (Mine.hd.heap_1 w.params).In h₀) (N : News h₀ L s.heap ((e, excObj ta none) :: news)) (hne : ∀ p ∈ news, p.1 ≠ e)
    (h : ∀ h' tk' dd, Fr h₀ L h' m → News h₀ L h' ((e, excObj ta (some dd)) :: news) → Q () { s with heap := h', toks := tk' }) :
    wpAny (model prog w) A (setAttr (.ref e) "text" v) Q E s := by
  have SF := PySem.F.store_Exception
  have X := X₀.keeps F.keep
  have hx := (N (e, excObj ta none) (.head _)).1
  have hC := rf_at X
  obtain ⟨hh, g, d, t, os⟩ := s
  have f3 := SF.slot.bind (.ref e)
  have f4 := (looks_findIn (M := model prog w) X (t := .ref 44) (name := "__setattr__") (r := some (.builtin "object.__setattr__")) (by k_is))
  have f5 := (looks_findIn (M := model prog w) X (t := .ref 44) (name := "text") (r := none) (by k_is))
  have hx' : hh.get? e = some (excObj ta none) := hx
  unfold setAttr callSpecial? specialOf
  repeat (any_goals (first | assumption | (with_reducible refine wpAny_loadPart_at hx' ?_; dsimp only) | wp_step))
  refine f4 _ _ _ _ (fun _ _ e => e) ?_
  repeat (any_goals (first | assumption | wp_step))
  refine codeAny_call_builtin SF.slot.plain SF.entry (rf_check_sa hC hx' ?_)
  show wpAny _ _ (Builtin.«object.__setattr__» ⟨[.ref e, .str (PySem.Str.ofString "text") t, v], []⟩) _ _ _
  rw [osa_eq, refuse_eq]
  repeat (first | (rw [refuseLoop_ref, refuseLoop_ref, SF.passes]) | (with_reducible refine wpAny_loadPart_at hx' ?_; dsimp only) | (with_reducible refine wpAny_mroOf_exc hC ?_) | wp_step)
  refine f5 _ _ _ _ (fun _ _ e => e) ?_
  repeat (first | (with_reducible refine wpAny_loadPart_at hx' ?_; dsimp only) | (with_reducible refine wpAny_loadPart_at hC ?_; dsimp only) | wp_step)
  refine wpAny_askSetting ?_
  have hxs : e ≠ hh.objs.size := Nat.ne_of_lt (Heap.lt_size hx')
  have hx₁ : (hh.push { cls := .type "dict", data := .dict #[] }).get? e = some (excObj ta none) := Heap.get?_push_of_some _ hx'
  have hgd : ((hh.push { cls := .type "dict", data := .dict #[] }).update e fun o => { cls := o.cls, dict := some hh.objs.size, data := o.data, slots := o.slots }).get? hh.objs.size
          = some { cls := .type "dict", data := .dict #[] } :=
        (Heap.get?_update_ne _ _ _ _ hxs.symm).trans (Heap.get?_push_at rfl rfl)
  repeat (first | (with_reducible refine wpAny_loadPart_at hgd ?_; dsimp only) | wp_step)
  generalize (Obj.putName (PySem.Str.ofString "text") _ _ v) = f
  have z := upd_kept (o' := excObj ta (some hh.objs.size)) (h' := ((hh.push { cls := .type "dict", data := .dict #[] }).update e fun o => { cls := o.cls, dict := some hh.objs.size, data := o.data, slots := o.slots }).update hh.objs.size f) F N hne ?_ ?_
  · exact h _ _ _ z.1 z.2
  · intro b ob hb q
    rw [Heap.get?_update_other _ _ (Nat.ne_of_gt (Heap.lt_size q)), Heap.get?_update_other _ _ (Ne.symm hb)]
    exact Heap.get?_push_of_some _ q
  · rw [Heap.get?_update_other _ _ hxs.symm, Heap.get?_update_self _ hx₁ rfl]
end

end Mine

theorem Mine.lines_finit : True := by
  k_with "getMethod type:Exception" => (k_here; k_dflt (refine' Mine.rf_getm ?k1qq ?k2qq ?_; (case k1qq => k_asm); (case k2qq => k_asm)))
  k_with "call builtin:Exception.__init__" => (k_here; k_dflt (refine' Mine.rf_init ?k1qq ?k2qq ?k3qq ?k4qq ?_; (case k1qq => k_asm); (case k2qq => k_asm); (case k3qq => k_asm); (case k4qq => assumption)); intro hzz' tazz' Fzz' Nzz'; (try k_sweep))
  k_with "setAttr ref" => (k_here; k_dflt (refine' Mine.rf_store ?k1qq ?k2qq ?k3qq ?k4qq ?_; (case k1qq => k_asm); (case k2qq => k_asm); (case k3qq => k_asm); (case k4qq => assumption)); intro hzz' tkzz' ddzz' Fzz' Nzz'; (try k_sweep))
  trivial

theorem Mine.off_finit2 : True := by
  w_top off
  trivial

namespace Mine
set_option maxHeartbeats 4000000 in
theorem ct_finit {prog : Program} {w : World} {p : Program} {loose : List Str} {mean : ExcName → Option Value} {mg mb : Str → Option Value} (news : Led) (e ta : Addr) (x : Str) (t : Tok) :
    Ctr prog w p loose mean mg mb 28 4 ((e, excObj ta none) :: (ta, tupS [.str x t]) :: news) [.ref e, .str x t]
      (fun h₀ L m s Q => AllLt e news ∧ ta ≠ e ∧ ∀ h' tk' ta' dd, Fr h₀ L h' m → News h₀ L h' ((e, excObj ta' (some dd)) :: (ta, tupS [.str x t]) :: news) → Q .none { s with heap := h', toks := tk' }) := by
  unfold Ctr
  intro dp un gd cn cs a ccd cl outer A₀ base h₀ L m s Q E B F X N T hk hd hu hret
  have hne : ∀ q ∈ (ta, tupS [.str x t]) :: news, q.1 ≠ e := by
    intro q hq
    rcases List.mem_cons.mp hq with rfl | hq
    · exact hret.2.1
    · exact Nat.ne_of_lt (ktn_ltOf hret.1 q hq)
  refine wpAny_call ?_
  k_dflt cell_enter
  k_steps
  exact hret.2.2 _ _ _ _ (by k_asm) (by k_asm)
end Mine


theorem Mine.off_rfault : True := by
  w_top off
  trivial

namespace Mine
section
variable {prog : Program} {w : World} {p : Program} {loose : List Str} {mean : ExcName → Option Value} {mg mb : Str → Option Value}
/-- RunFault(text), made -/
theorem rf_call {dp un : Nat} {gd : Option (List Code)} {cn : Str} {cs : Scope} {a : Addr} {ccd : Value} {cl : List (Str × Addr)} {outer : List Env} {A₀ : Around} {base h₀ : Heap} {L : Addr} {m : Str → Option Value} {s : Shared} {news : Led} {Q E : Value → Shared → Prop} {x : Str} {t : Tok}
    (B : Below A₀ base outer h₀) (F : Fr h₀ L s.heap m) (X₀ : (Mine.hd.heap_1 w.params).In h₀) (N : News h₀ L s.heap news) (T : Top p loose mean mg mb h₀) (hk : cs.kind = .function) (hd : dp + 6 < recursionLimit) (hu : un + 48 < cLine)
    (h : ∀ e ta ta' dd h' tk', Fr h₀ L h' m → News h₀ L h' ((e, excObj ta' (some dd)) :: (ta, tupS [.str x t]) :: news) → AllLt e ((ta, tupS [.str x t]) :: news) → Q (.ref e) { s with heap := h', toks := tk' }) :
    wpAny (model prog w) (ktrTop dp un gd cn cs L a ccd cl outer) (call (.ref 44) [.str x t]) Q E s := by
  have X := X₀.keeps F.keep
  obtain ⟨hh, g, d, tk, os⟩ := s
  refine rf_call0 X ?_
  have N1 := N.push F (tupS [.str x t])
  have F1 := F.push (tupS [.str x t])
  have N2 := N1.push F1 (excObj hh.objs.size none)
  have F2 := F1.push (excObj hh.objs.size none)
  rw [Heap.size_push] at N2
  have hl : AllLt (hh.objs.size + 1) ((hh.objs.size, tupS [.str x t]) :: news) := ⟨Nat.lt_succ_self _, allLt_of fun q hq => Nat.lt_succ_of_lt (Heap.lt_size (N q hq).1)⟩
  refine use_ctr (ct_finit news (hh.objs.size + 1) hh.objs.size x t) B F2 X₀ N2 T hk ?_ ?_ ?_
  · show dp + _ + 4 < recursionLimit
    have : (Code.builtin "type.__call__" ⟨[.ref 44, .str x t], []⟩).weight ≤ 1 := by first | decide | exact Nat.le_of_ble_eq_true rfl
    omega
  · show un + _ + 32 < cLine
    have : (Code.builtin "type.__call__" ⟨[.ref 44, .str x t], []⟩).cUnits ≤ 16 := by first | decide | exact Nat.le_of_ble_eq_true rfl
    omega
  · exact ⟨hl.2, Nat.ne_of_lt (Nat.lt_succ_self _), fun h' tk' ta' dd F' N' => ⟨rfl, h _ _ _ _ h' tk' F' N' hl⟩⟩

def RfMade (E : Value → Shared → Prop) (v : Value) (s₁ : Shared) : Prop := ∃ e t dd, v = .ref e ∧ s₁.heap.get? 44 = some rfObj ∧ s₁.heap.get? e = some (excObj t dd) ∧ E (.ref e) s₁

theorem rf_raiseStmt {M : Model} {A : Around} {E : Value → Shared → Prop} {s : Shared} {env : Env} {x : Sem Value} {Q : Flow → Shared → Prop} (hh : A.handled = none) (h : wpAny M A x (RfMade E) E s) : wpAny M A (raiseStmt env (some x) none) Q E s := by
  unfold raiseStmt
  refine wpAny_bind (wpAny_mono h (fun v s₁ h₁ => ?_) fun _ _ x => x)
  obtain ⟨e, t, dd, rfl, hC, he, hE⟩ := h₁
  obtain ⟨hp, g, d, tk, os⟩ := s₁
  repeat (first | (with_reducible refine wpAny_loadPart_at he ?_; dsimp only) | with_reducible refine wpAny_loadPart_at hC ?_ | (with_reducible refine wpAny_isSubtype_exc hC ?_; rw [rf_cB]) | wp_step)
  exact wpAny_raiseNew_none hh hE

theorem rf_Raise {M : Model} {A : Around} {E : Value → Shared → Prop} {s : Shared} {env : Env} {x : Expr} {pos : Pos} {Q : Flow → Shared → Prop} (hh : A.handled = none) (h : wpAny M A (eval x env) (RfMade E) E s) : wpAny M A (exec (.Raise (some x) none pos) env) Q E s := by
  rw [arm_exec_Raise]
  exact wpAny_bind (wpAny_standAt (rf_raiseStmt hh (wpAny_bind (wpAny_mono h (fun v s₁ h₁ => wpAny_bind (wpAny_standAt (wpAny_pure h₁))) fun _ _ x => x))))

theorem rf_made {E : Value → Shared → Prop} {s₁ : Shared} {h₀ : Heap} {L e t : Addr} {dd : Option Addr} {m : Str → Option Value} {P : Params} {news : Led} (F : Fr h₀ L s₁.heap m) (X : (Mine.hd.heap_1 P).In h₀) (N : News h₀ L s₁.heap ((e, excObj t dd) :: news)) (h : E (.ref e) s₁) : RfMade E (.ref e) s₁ :=
  ⟨e, t, dd, rfl, rf_at (X.keeps F.keep), (N _ (.head _)).1, h⟩

/-- the fault leaves a called def -/
abbrev RaiseE (base : Heap) (fr : List Env) (news : Led) (h₀ : Heap) (L : Addr) (m : Str → Option Value) (s : Shared) (E : Value → Shared → Prop) : Prop :=
  ∀ (e : Addr) (g h' : Heap) (tk' : Nat), Fr h₀ L g m → g.UpToSlots h' → RaisedSN base g fr e (.ref 44) news h' → E (.ref e) { s with heap := h', toks := tk' }
abbrev RetO (news : Led) (o : Option (Int × Int)) (h₀ : Heap) (L : Addr) (m : Str → Option Value) (s : Shared) (Q : Value → Shared → Prop) : Prop := ∀ y, o = some y → RetP news y h₀ L m s Q
abbrev CtrE (prog : Program) (w : World) (p : Program) (loose : List Str) (mean : ExcName → Option Value) (mg mb : Str → Option Value) (f : Addr) (k : Nat) (news : Led) (vs : List Value)
    (Post : Heap → Addr → (Str → Option Value) → Shared → (Value → Shared → Prop) → Prop) (X : Prop) : Prop :=
  ∀ (dp un : Nat) (gd : Option (List Code)) (cn : Str) (cs : Scope) (a : Addr) (ccd : Value) (cl : List (Str × Addr)) (outer : List Env) (A₀ : Around) (base h₀ : Heap) (L : Addr) (m : Str → Option Value) (s : Shared) (Q E : Value → Shared → Prop),
    Below A₀ base outer h₀ → Fr h₀ L s.heap m → (Mine.hd.heap_1 w.params).In h₀ → News h₀ L s.heap news → Top p loose mean mg mb h₀ → cs.kind = .function → dp + k < recursionLimit → un + 8 * k < cLine →
    Post h₀ L m s Q → (X → RaiseE base (envX cn cs L a ccd cl :: outer) news h₀ L m s E) →
    wpAny (model prog w) (ktrTop dp un gd cn cs L a ccd cl outer) (call (.ref f) vs) Q E s
theorem use_ctrE {f : Addr} {k : Nat} {news : Led} {vs : List Value}
    {Post : Heap → Addr → (Str → Option Value) → Shared → (Value → Shared → Prop) → Prop} {X : Prop} {dp un : Nat} {gd : Option (List Code)} {cn : Str} {cs : Scope} {a : Addr} {ccd : Value} {cl : List (Str × Addr)} {outer : List Env} {A₀ : Around} {base h₀ : Heap} {L : Addr} {m : Str → Option Value} {s : Shared} {Q E : Value → Shared → Prop}
    (C : CtrE prog w p loose mean mg mb f k news vs Post X) (B : Below A₀ base outer h₀) (F : Fr h₀ L s.heap m) (X₀ : (Mine.hd.heap_1 w.params).In h₀) (N : News h₀ L s.heap news) (T : Top p loose mean mg mb h₀) (hk : cs.kind = .function) (hd : dp + k < recursionLimit) (hu : un + 8 * k < cLine)
    (hp : Post h₀ L m s Q) (hx : X → RaiseE base (envX cn cs L a ccd cl :: outer) news h₀ L m s E) : wpAny (model prog w) (ktrTop dp un gd cn cs L a ccd cl outer) (call (.ref f) vs) Q E s :=
  C dp un gd cn cs a ccd cl outer A₀ base h₀ L m s Q E B F X₀ N T hk hd hu hp hx

theorem raisedN_sub {base G h : Heap} {l : List Env} {e : Addr} {cls : Value} {news news' : Led} (R : RaisedSN base G l e cls news' h) (hs : ∀ q ∈ news, q ∈ news') : RaisedSN base G l e cls news h :=
  let ⟨B, a0, h1, h2, h3, h4⟩ := R; ⟨B, a0, h1, h2, fun q hq => h3 q (hs q hq), h4⟩
theorem leave_rf {M : Model} {A : Around} {E : Value → Shared → Prop} {s' : Shared} {base g : Heap} {outer : List Env} {L a e ta : Addr} {dd : Option Addr} {m : Str → Option Value} {name : Str} {scope : Scope} {cd : Value} {Q : Unit → Shared → Prop} {news' : Led}
    (K : Below A base outer g) (F : Fr g L s'.heap m) (N : News g L s'.heap ((e, excObj ta dd) :: news')) (hl : AllLt e news')
    (hQ : ∀ h', RaisedSN base g outer e (.ref 44) news' h' → g.UpToSlots h' → Q () { s' with heap := h' }) (hk : scope.kind = .function := by rfl) :
    wpAny M (A.deeper (envOf name scope L a cd)) (leaving (envOf name scope L a cd) (.ref e)) Q E s' := by
  have K' := K.push (name := name) (a := a) (cd := cd) F hk
  have he := N _ (.head _)
  have hin : ∀ env ∈ (envOf name scope L a cd :: outer), ∀ b, env.frame = some b → b ∈ e :: (envOf name scope L a cd :: outer).filterMap (·.frame) := fun env he b hb => .tail _ (List.mem_filterMap.mpr ⟨env, he, hb⟩)
  have st : base.StaysIn (hideAll s'.heap (e :: (envOf name scope L a cd :: outer).filterMap (·.frame))) := fun b o q => hideAll_get _ (K'.stays b o q) fun hm => by
    rcases List.mem_cons.mp hm with rfl | hm
    · rw [fresh_of_stays K.stays he.2.2] at q; cases q
    · rw [(K'.frames.mem hm).1] at q; cases q
  have sg : ∀ b o, g.get? b = some o → b ∉ outer.filterMap (·.frame) → (hideAll s'.heap (e :: (envOf name scope L a cd :: outer).filterMap (·.frame))).get? b = some o := fun b o q nm => hideAll_get _ (F.keep b o q) fun hm => by
    rcases List.mem_cons.mp hm with rfl | hm
    · rw [he.2.2] at q; cases q
    · rcases kts_mem hm with z | z
      · rw [z, kts_self F] at q; cases q
      · exact nm z
  have hl' : ∀ q ∈ news', (hideAll s'.heap (e :: (envOf name scope L a cd :: outer).filterMap (·.frame))).get? q.1 = some q.2 ∧ g.get? q.1 = none ∧ base.get? q.1 = none := fun q hq => by
    have Nq := N q (.tail _ hq)
    refine ⟨hideAll_get _ Nq.1 fun hm => ?_, Nq.2.2, fresh_of_stays K.stays Nq.2.2⟩
    rcases List.mem_cons.mp hm with hm | hm
    · exact Nat.ne_of_lt (ktn_ltOf hl q hq) hm
    · obtain ⟨env, he, hf⟩ := List.mem_filterMap.mp hm
      rcases List.mem_cons.mp he with rfl | he
      · exact Nq.2.1 (Option.some.inj hf).symm
      · obtain ⟨o, ho, _⟩ := (K.frames.mem (List.mem_filterMap.mpr ⟨env, he, hf⟩)).2
        rw [Nq.2.2] at ho; cases ho
  have hen : (hideAll s'.heap (e :: (envOf name scope L a cd :: outer).filterMap (·.frame))).get? e = none := hideAll_none _ (.head _)
  refine wpAny_leaving_firstW (a0 := .ref ta) K'.stack (funFrames_hide K'.frames hin) rfl he.1 (fun b o hb => of_hideAll _ hb) hen rfl rfl rfl fun h' hL => ?_
  obtain ⟨k1, ⟨_, _, k2⟩, k3, k4⟩ := hL
  exact hQ h' ⟨_, .ref ta, st, sg, hl', k1, hen, k2, k3⟩ ((Heap.UpToSlots.of_keeps F.keep).trans k4)
end
end Mine

theorem Mine.lines_rfault : True := by
  k_with "exec Raise some none" => (k_here; (with_unfolding_all refine Mine.rf_Raise (by rfl) ?_))
  k_with "call ref" => (k_here; (with_reducible show wpAny _ _ (call (Value.ref 44) _) _ _ _); k_dflt (refine' Mine.rf_call ?k1qq ?k2qq ?k3qq ?k4qq ?k5qq ?kKqq ?kdqq ?kuqq ?_; (case k1qq => k_asm); (case k2qq => k_asm); (case k3qq => k_asm); (case k4qq => k_asm); (case k5qq => k_asm); (case kKqq => first | exact rfl | assumption); (case kdqq => ktr_room); (case kuqq => ktr_units)); intro e9zz ta9zz ta9zz' dd9zz h9zz tk9zz F9zz N9zz l9zz; (try dsimp only); (try k_fold); (try k_sweep))
  k_with "RfMade" => (refine Mine.rf_made (by k_asm) (by k_asm) (by k_asm) ?_)
  k_with "leaving ref" => (k_here; k_dflt (refine' Mine.leave_rf ?k1qq ?k2qq ?k3qq ?k5qq ?_; (case k1qq => assumption); (case k2qq => k_asm); (case k3qq => k_asm); (case k5qq => assumption)); intro hzz' Rzz' Uzz'; (try dsimp only at Rzz' Uzz' ⊢))
  k_with "leaving ref" => (k_here; k_dflt (refine' leave_onSN ?k1qq ?k2qq ?k3qq ?k4qq ?_; (case k3qq => assumption); (case k2qq => assumption); (case k1qq => assumption); (case k4qq => assumption)); intro hzz' Szz' Rzz' Uzz'; clear Rzz'; (try dsimp only at Szz' Uzz' ⊢))
  trivial

theorem Mine.off_rreal : True := by
  w_top off
  trivial

namespace Mine
section
variable {prog : Program} {w : World} {p : Program} {loose : List Str} {mean : ExcName → Option Value} {mg mb : Str → Option Value}
theorem rreal_0 {x y d tp : Int} (h : (rdig x y d).1 = 0) : rreal x y d tp = some (0, 0) := by
  unfold rreal; rw [if_pos (Or.inl h)]
theorem rreal_z {x y d tp : Int} (h : rdig x y d = (0, 0)) : rreal x y d tp = some (0, 0) := rreal_0 (by rw [h])
theorem rreal_lo {x y d tp : Int} (h : (rdig x y d).2 + cd (rdig x y d).1 - 1 < -tp) : rreal x y d tp = some (0, 0) := by
  unfold rreal; rw [if_pos (Or.inr h)]
theorem rreal_hi {x y d tp : Int} (h1 : (rdig x y d).1 ≠ 0) (h2 : ¬ (rdig x y d).2 + cd (rdig x y d).1 - 1 < -tp) (h3 : tp < (rdig x y d).2 + cd (rdig x y d).1 - 1) : rreal x y d tp = none := by
  unfold rreal; rw [if_neg (by rintro (h | h) <;> contradiction), if_pos h3]
theorem rreal_mid {x y d tp : Int} (h1 : (rdig x y d).1 ≠ 0) (h2 : ¬ (rdig x y d).2 + cd (rdig x y d).1 - 1 < -tp) (h3 : ¬ tp < (rdig x y d).2 + cd (rdig x y d).1 - 1) : rreal x y d tp = some (rdig x y d) := by
  unfold rreal; rw [if_neg (by rintro (h | h) <;> contradiction), if_neg h3]

set_option maxHeartbeats 4000000 in
theorem ct_rreal (news : Led) (x y d tp : Int) (t u v q : Tok) (hx : CB x 2600) (hd0 : 0 ≤ d) :
    CtrE prog w p loose mean mg mb 75 12 news [.int x t, .int y u, .int d v, .int tp q] (RetO news (rreal x y d tp)) (rreal x y d tp = none) := by
  unfold CtrE
  intro dp un gd cn cs a ccd cl outer A₀ base h₀ L m s Q E B F X N T hk hd hu hret hexc
  refine wpAny_call ?_
  k_dflt cell_enter
  k_steps
  · exact retP0_of (hret (0, 0) (rreal_0 (by assumption))) rfl (by k_asm) (by k_asm) (by kcj_all) rfl
  · exact retP0_of (hret (0, 0) (rreal_lo (by assumption))) rfl (by k_asm) (by k_asm) (by kcj_all) rfl
  · exact hexc (rreal_hi (by assumption) (by assumption) (by assumption)) _ _ _ _ (by assumption) (by assumption) (raisedN_sub (by assumption) (by kcj_all))
  · exact retP_of (hret _ (rreal_mid (by assumption) (by assumption) (by assumption))) (by assumption) (by k_asm) (by k_asm) (by k_mem) (by kcj_all) (allLt_sub (And.right (by assumption)) (by kcj_all)) rfl
  · exact retP0_of (hret (0, 0) (rreal_z (by assumption))) rfl (by k_asm) (by k_asm) (by kcj_all) rfl
end
end Mine

theorem Mine.lines_rreal : True := by
  k_with "call ref" => (k_here; (with_reducible show wpAny _ _ (call (Value.ref 75) _) _ _ _); k_dflt (refine' Mine.use_ctrE (Mine.ct_rreal _ _ _ _ _ _ _ _ _ ?kh1qq ?kh2qq) ?k1qq ?k2qq ?k3qq ?k4qq ?k5qq ?kKqq ?kdqq ?kuqq ?_ ?_; (case k1qq => k_asm); (case k2qq => k_asm); (case k3qq => k_asm); (case k4qq => k_asm); (case k5qq => k_asm); (case kKqq => first | exact rfl | assumption); (case kdqq => ktr_room); (case kuqq => ktr_units); (case kh1qq => (refine' Mine.CB.le ?cbaqq ?cbbqq; (case cbaqq => k_extra "tb_start"); (case cbbqq => omega))); (case kh2qq => first | assumption | omega)); rotate_left; (intro hx9zz e9zz g9zz h9zz tk9zz F9zz U9zz R9zz); rotate_left; (refine' fun y9zz hy9zz => ⟨fun hp9zz D9zz t9zz u9zz c9zz h9zz tk9zz F9zz N9zz l9zz => ?_, fun hp9zz h9zz tk9zz F9zz N9zz => ?_⟩); all_goals (try dsimp only); all_goals (try k_fold); all_goals (try k_sweep))
  trivial

theorem Mine.off_radd : True := by
  w_top off
  trivial

namespace Mine
section
variable {prog : Program} {w : World} {p : Program} {loose : List Str} {mean : ExcName → Option Value} {mg mb : Str → Option Value}

set_option maxHeartbeats 4000000 in
theorem ct_radd (news : Led) (X Y : Addr) (x0 x1 y0 y1 d tp : Int) (t1 t2 u1 u2 v q : Tok) (c c' : Nat) (hX : (X, pairObj x0 x1 t1 t2 c) ∈ news) (hY : (Y, pairObj y0 y1 u1 u2 c') ∈ news)
    (hx : CB x0 20) (hy : CB y0 20) (hxl : -200 ≤ x1) (hxh : x1 ≤ 200) (hyl : -200 ≤ y1) (hyh : y1 ≤ 200) (hd0 : 0 ≤ d) :
    CtrE prog w p loose mean mg mb 110 18 news [.ref X, .ref Y, .int d v, .int tp q]
      (RetO news (rreal (x0 * 10 ^ (x1 - min x1 y1).toNat + y0 * 10 ^ (y1 - min x1 y1).toNat) (min x1 y1) d tp)) (rreal (x0 * 10 ^ (x1 - min x1 y1).toNat + y0 * 10 ^ (y1 - min x1 y1).toNat) (min x1 y1) d tp = none) := by
  unfold CtrE
  intro dp un gd cn cs a ccd cl outer A₀ base h₀ L m s Q E B F X₀ N T hk hd hu hret hexc
  refine wpAny_call ?_
  k_dflt cell_enter
  k_steps
  · exact retP_of (hret _ (by assumption)) (by assumption) (by k_asm) (by k_asm) (by k_mem) (by kcj_all) (allLt_sub (by assumption) (by kcj_all)) rfl
  · exact retP0_of (hret _ (by assumption)) (by assumption) (by k_asm) (by k_asm) (by kcj_all) rfl
  · exact hexc (by assumption) _ _ _ _ (by assumption) (by assumption) (raisedN_sub (by assumption) (by kcj_all))

end
end Mine

theorem Mine.lines_radd : True := by
  k_with "call ref" => (k_here; (with_reducible show wpAny _ _ (call (Value.ref 110) _) _ _ _); k_dflt (refine' Mine.use_ctrE (Mine.ct_radd _ _ _ _ _ _ _ _ _ _ _ _ _ _ _ _ _ ?kXqq ?kYqq ?kh1qq ?kh2qq ?kh3qq ?kh4qq ?kh5qq ?kh6qq ?kh7qq) ?k1qq ?k2qq ?k3qq ?k4qq ?k5qq ?kKqq ?kdqq ?kuqq ?_ ?_; (case k1qq => k_asm); (case k2qq => k_asm); (case k3qq => k_asm); (case k4qq => k_asm); (case k5qq => k_asm); (case kKqq => first | exact rfl | assumption); (case kdqq => ktr_room); (case kuqq => ktr_units); (case kXqq => k_extra "tb_rel"); (case kYqq => k_extra "tb_rel"); (case kh1qq => first | assumption | omega); (case kh2qq => first | assumption | omega); (case kh3qq => first | assumption | omega); (case kh4qq => first | assumption | omega); (case kh5qq => first | assumption | omega); (case kh6qq => first | assumption | omega); (case kh7qq => first | assumption | omega)); rotate_left; (intro hx9zz e9zz g9zz h9zz tk9zz F9zz U9zz R9zz); rotate_left; (refine' fun y9zz hy9zz => ⟨fun hp9zz D9zz t9zz u9zz c9zz h9zz tk9zz F9zz N9zz l9zz => ?_, fun hp9zz h9zz tk9zz F9zz N9zz => ?_⟩); all_goals (try dsimp only); all_goals (try k_fold); all_goals (try k_sweep))
  trivial

theorem Mine.off_rsub : True := by
  w_top off
  trivial

namespace Mine
section
variable {prog : Program} {w : World} {p : Program} {loose : List Str} {mean : ExcName → Option Value} {mg mb : Str → Option Value}

set_option maxHeartbeats 4000000 in
theorem ct_rsub (news : Led) (X Y : Addr) (x0 x1 y0 y1 d tp : Int) (t1 t2 u1 u2 v q : Tok) (c c' : Nat) (hX : (X, pairObj x0 x1 t1 t2 c) ∈ news) (hY : (Y, pairObj y0 y1 u1 u2 c') ∈ news)
    (hx : CB x0 20) (hy : CB y0 20) (hxl : -200 ≤ x1) (hxh : x1 ≤ 200) (hyl : -200 ≤ y1) (hyh : y1 ≤ 200) (hd0 : 0 ≤ d) :
    CtrE prog w p loose mean mg mb 117 18 news [.ref X, .ref Y, .int d v, .int tp q]
      (RetO news (rreal (x0 * 10 ^ (x1 - min x1 y1).toNat + -y0 * 10 ^ (y1 - min x1 y1).toNat) (min x1 y1) d tp)) (rreal (x0 * 10 ^ (x1 - min x1 y1).toNat + -y0 * 10 ^ (y1 - min x1 y1).toNat) (min x1 y1) d tp = none) := by
  unfold CtrE
  intro dp un gd cn cs a ccd cl outer A₀ base h₀ L m s Q E B F X₀ N T hk hd hu hret hexc
  refine wpAny_call ?_
  k_dflt cell_enter
  k_steps
  · exact retP_of (hret _ (by assumption)) (by assumption) (by k_asm) (by k_asm) (by k_mem) (by kcj_all) (allLt_sub (by assumption) (by kcj_all)) rfl
  · exact retP0_of (hret _ (by assumption)) (by assumption) (by k_asm) (by k_asm) (by kcj_all) rfl
  · exact hexc (by assumption) _ _ _ _ (by assumption) (by assumption) (raisedN_sub (by assumption) (by kcj_all))

end
end Mine

theorem Mine.lines_rsub : True := by
  k_with "call ref" => (k_here; (with_reducible show wpAny _ _ (call (Value.ref 117) _) _ _ _); k_dflt (refine' Mine.use_ctrE (Mine.ct_rsub _ _ _ _ _ _ _ _ _ _ _ _ _ _ _ _ _ ?kXqq ?kYqq ?kh1qq ?kh2qq ?kh3qq ?kh4qq ?kh5qq ?kh6qq ?kh7qq) ?k1qq ?k2qq ?k3qq ?k4qq ?k5qq ?kKqq ?kdqq ?kuqq ?_ ?_; (case k1qq => k_asm); (case k2qq => k_asm); (case k3qq => k_asm); (case k4qq => k_asm); (case k5qq => k_asm); (case kKqq => first | exact rfl | assumption); (case kdqq => ktr_room); (case kuqq => ktr_units); (case kXqq => k_extra "tb_rel"); (case kYqq => k_extra "tb_rel"); (case kh1qq => first | assumption | omega); (case kh2qq => first | assumption | omega); (case kh3qq => first | assumption | omega); (case kh4qq => first | assumption | omega); (case kh5qq => first | assumption | omega); (case kh6qq => first | assumption | omega); (case kh7qq => first | assumption | omega)); rotate_left; (intro hx9zz e9zz g9zz h9zz tk9zz F9zz U9zz R9zz); rotate_left; (refine' fun y9zz hy9zz => ⟨fun hp9zz D9zz t9zz u9zz c9zz h9zz tk9zz F9zz N9zz l9zz => ?_, fun hp9zz h9zz tk9zz F9zz N9zz => ?_⟩); all_goals (try dsimp only); all_goals (try k_fold); all_goals (try k_sweep))
  trivial

theorem Mine.off_rmul : True := by
  w_top off
  trivial

namespace Mine
section
variable {prog : Program} {w : World} {p : Program} {loose : List Str} {mean : ExcName → Option Value} {mg mb : Str → Option Value}

set_option maxHeartbeats 4000000 in
theorem ct_rmul (news : Led) (X Y : Addr) (x0 x1 y0 y1 d tp : Int) (t1 t2 u1 u2 v q : Tok) (c c' : Nat) (hX : (X, pairObj x0 x1 t1 t2 c) ∈ news) (hY : (Y, pairObj y0 y1 u1 u2 c') ∈ news)
    (hx : CB x0 20) (hy : CB y0 20) (hxl : -200 ≤ x1) (hxh : x1 ≤ 200) (hyl : -200 ≤ y1) (hyh : y1 ≤ 200) (hd0 : 0 ≤ d) :
    CtrE prog w p loose mean mg mb 124 18 news [.ref X, .ref Y, .int d v, .int tp q]
      (RetO news (rreal (x0 * y0) (x1 + y1) d tp)) (rreal (x0 * y0) (x1 + y1) d tp = none) := by
  unfold CtrE
  intro dp un gd cn cs a ccd cl outer A₀ base h₀ L m s Q E B F X₀ N T hk hd hu hret hexc
  refine wpAny_call ?_
  k_dflt cell_enter
  k_steps
  · exact retP_of (hret _ (by assumption)) (by assumption) (by k_asm) (by k_asm) (by k_mem) (by kcj_all) (allLt_sub (by assumption) (by kcj_all)) rfl
  · exact retP0_of (hret _ (by assumption)) (by assumption) (by k_asm) (by k_asm) (by kcj_all) rfl
  · exact hexc (by assumption) _ _ _ _ (by assumption) (by assumption) (raisedN_sub (by assumption) (by kcj_all))

end
end Mine

theorem Mine.lines_rmul : True := by
  k_with "call ref" => (k_here; (with_reducible show wpAny _ _ (call (Value.ref 124) _) _ _ _); k_dflt (refine' Mine.use_ctrE (Mine.ct_rmul _ _ _ _ _ _ _ _ _ _ _ _ _ _ _ _ _ ?kXqq ?kYqq ?kh1qq ?kh2qq ?kh3qq ?kh4qq ?kh5qq ?kh6qq ?kh7qq) ?k1qq ?k2qq ?k3qq ?k4qq ?k5qq ?kKqq ?kdqq ?kuqq ?_ ?_; (case k1qq => k_asm); (case k2qq => k_asm); (case k3qq => k_asm); (case k4qq => k_asm); (case k5qq => k_asm); (case kKqq => first | exact rfl | assumption); (case kdqq => ktr_room); (case kuqq => ktr_units); (case kXqq => k_extra "tb_rel"); (case kYqq => k_extra "tb_rel"); (case kh1qq => first | assumption | omega); (case kh2qq => first | assumption | omega); (case kh3qq => first | assumption | omega); (case kh4qq => first | assumption | omega); (case kh5qq => first | assumption | omega); (case kh6qq => first | assumption | omega); (case kh7qq => first | assumption | omega)); rotate_left; (intro hx9zz e9zz g9zz h9zz tk9zz F9zz U9zz R9zz); rotate_left; (refine' fun y9zz hy9zz => ⟨fun hp9zz D9zz t9zz u9zz c9zz h9zz tk9zz F9zz N9zz l9zz => ?_, fun hp9zz h9zz tk9zz F9zz N9zz => ?_⟩); all_goals (try dsimp only); all_goals (try k_fold); all_goals (try k_sweep))
  trivial

theorem Mine.off_rofint : True := by
  w_top off
  trivial

namespace Mine
section
variable {prog : Program} {w : World} {p : Program} {loose : List Str} {mean : ExcName → Option Value} {mg mb : Str → Option Value}

set_option maxHeartbeats 4000000 in
theorem ct_rofint (news : Led) (n d tp : Int) (t v q : Tok) (hx : CB n 2600) (hd0 : 0 ≤ d) :
    CtrE prog w p loose mean mg mb 145 18 news [.int n t, .int d v, .int tp q]
      (RetO news (rreal n 0 d tp)) (rreal n 0 d tp = none) := by
  unfold CtrE
  intro dp un gd cn cs a ccd cl outer A₀ base h₀ L m s Q E B F X₀ N T hk hd hu hret hexc
  refine wpAny_call ?_
  k_dflt cell_enter
  k_steps
  · exact retP_of (hret _ (by assumption)) (by assumption) (by k_asm) (by k_asm) (by k_mem) (by kcj_all) (allLt_sub (by assumption) (by kcj_all)) rfl
  · exact retP0_of (hret _ (by assumption)) (by assumption) (by k_asm) (by k_asm) (by kcj_all) rfl
  · exact hexc (by assumption) _ _ _ _ (by assumption) (by assumption) (raisedN_sub (by assumption) (by kcj_all))

end
end Mine

theorem Mine.lines_rofint : True := by
  k_with "call ref" => (k_here; (with_reducible show wpAny _ _ (call (Value.ref 145) _) _ _ _); k_dflt (refine' Mine.use_ctrE (Mine.ct_rofint _ _ _ _ _ _ _ ?kh1qq ?kh2qq) ?k1qq ?k2qq ?k3qq ?k4qq ?k5qq ?kKqq ?kdqq ?kuqq ?_ ?_; (case k1qq => k_asm); (case k2qq => k_asm); (case k3qq => k_asm); (case k4qq => k_asm); (case k5qq => k_asm); (case kKqq => first | exact rfl | assumption); (case kdqq => ktr_room); (case kuqq => ktr_units); (case kh1qq => first | assumption | (refine' Mine.CB.le ?cbaqq ?cbbqq; (case cbaqq => k_extra "tb_start"); (case cbbqq => omega))); (case kh2qq => first | assumption | omega)); rotate_left; (intro hx9zz e9zz g9zz h9zz tk9zz F9zz U9zz R9zz); rotate_left; (refine' fun y9zz hy9zz => ⟨fun hp9zz D9zz t9zz u9zz c9zz h9zz tk9zz F9zz N9zz l9zz => ?_, fun hp9zz h9zz tk9zz F9zz N9zz => ?_⟩); all_goals (try dsimp only); all_goals (try k_fold); all_goals (try k_sweep))
  trivial

theorem Mine.off_quot : True := by
  w_top off
  trivial

namespace Mine
section
variable {prog : Program} {w : World} {p : Program} {loose : List Str} {mean : ExcName → Option Value} {mg mb : Str → Option Value}

theorem quot_parts (o u : Int) (k : Nat) : ((if o < 0 then -o else o) * 10 ^ k).fdiv (if u < 0 then -u else u) = (((o.natAbs * 10 ^ k) / u.natAbs : Nat) : Int) ∧ ((if o < 0 then -o else o) * 10 ^ k).fmod (if u < 0 then -u else u) = (((o.natAbs * 10 ^ k) % u.natAbs : Nat) : Int) := by
  have e1 : (if o < 0 then -o else o) = (o.natAbs : Int) := by split <;> omega
  have e2 : (if u < 0 then -u else u) = (u.natAbs : Int) := by split <;> omega
  have e3 : (o.natAbs : Int) * 10 ^ k = ((o.natAbs * 10 ^ k : Nat) : Int) := by rw [Int.natCast_mul, Int.natCast_pow]; rfl
  rw [e1, e2, e3, Int.fdiv_eq_ediv_of_nonneg _ (by omega), Int.fmod_eq_emod_of_nonneg _ (by omega)]
  exact ⟨(Int.natCast_ediv _ _).symm, (Int.natCast_emod _ _).symm⟩
theorem quot_a {o u e d : Int} (h : ((if o < 0 then -o else o) * 10 ^ (max (d + 2 + cd u - cd o) 0).toNat).fmod (if u < 0 then -u else u) ≠ 0) (hs : (decide (o < 0) != decide (u < 0)) = true) : quot o u e d = (-(10 * ((if o < 0 then -o else o) * 10 ^ (max (d + 2 + cd u - cd o) 0).toNat).fdiv (if u < 0 then -u else u) + 1), e - max (d + 2 + cd u - cd o) 0 - 1) := by
  obtain ⟨h1, h2⟩ := quot_parts o u (max (d + 2 + cd u - cd o) 0).toNat
  rw [h2] at h
  rw [h1]
  unfold quot
  simp only
  rw [if_neg (show ¬ (o.natAbs * 10 ^ (max (d + 2 + cd u - cd o) 0).toNat) % u.natAbs = 0 by omega)]
  rw [if_neg (by simpa using hs)]
theorem quot_b {o u e d : Int} (h : ((if o < 0 then -o else o) * 10 ^ (max (d + 2 + cd u - cd o) 0).toNat).fmod (if u < 0 then -u else u) ≠ 0) (hs : (decide (o < 0) != decide (u < 0)) = false) : quot o u e d = (10 * ((if o < 0 then -o else o) * 10 ^ (max (d + 2 + cd u - cd o) 0).toNat).fdiv (if u < 0 then -u else u) + 1, e - max (d + 2 + cd u - cd o) 0 - 1) := by
  obtain ⟨h1, h2⟩ := quot_parts o u (max (d + 2 + cd u - cd o) 0).toNat
  rw [h2] at h
  rw [h1]
  unfold quot
  simp only
  rw [if_neg (show ¬ (o.natAbs * 10 ^ (max (d + 2 + cd u - cd o) 0).toNat) % u.natAbs = 0 by omega)]
  rw [if_pos (by simpa using hs)]
theorem quot_c {o u e d : Int} (h : ((if o < 0 then -o else o) * 10 ^ (max (d + 2 + cd u - cd o) 0).toNat).fmod (if u < 0 then -u else u) = 0) (hs : (decide (o < 0) != decide (u < 0)) = true) : quot o u e d = (-(10 * ((if o < 0 then -o else o) * 10 ^ (max (d + 2 + cd u - cd o) 0).toNat).fdiv (if u < 0 then -u else u) + 0), e - max (d + 2 + cd u - cd o) 0 - 1) := by
  obtain ⟨h1, h2⟩ := quot_parts o u (max (d + 2 + cd u - cd o) 0).toNat
  rw [h2] at h
  rw [h1]
  unfold quot
  simp only
  rw [if_pos (show (o.natAbs * 10 ^ (max (d + 2 + cd u - cd o) 0).toNat) % u.natAbs = 0 by omega)]
  rw [if_neg (by simpa using hs)]
theorem quot_d {o u e d : Int} (h : ((if o < 0 then -o else o) * 10 ^ (max (d + 2 + cd u - cd o) 0).toNat).fmod (if u < 0 then -u else u) = 0) (hs : (decide (o < 0) != decide (u < 0)) = false) : quot o u e d = (10 * ((if o < 0 then -o else o) * 10 ^ (max (d + 2 + cd u - cd o) 0).toNat).fdiv (if u < 0 then -u else u) + 0, e - max (d + 2 + cd u - cd o) 0 - 1) := by
  obtain ⟨h1, h2⟩ := quot_parts o u (max (d + 2 + cd u - cd o) 0).toNat
  rw [h2] at h
  rw [h1]
  unfold quot
  simp only
  rw [if_pos (show (o.natAbs * 10 ^ (max (d + 2 + cd u - cd o) 0).toNat) % u.natAbs = 0 by omega)]
  rw [if_pos (by simpa using hs)]

set_option maxHeartbeats 4000000 in
theorem ct_quot (news : Led) (o u e d : Int) (t1 t2 t3 t4 : Tok) (ho : CB o 1000) (hu0 : CB u 1000) (hne : u ≠ 0) (hd0 : 0 ≤ d) (hd1 : d ≤ 20) :
    Ctr prog w p loose mean mg mb 103 12 news [.int o t1, .int u t2, .int e t3, .int d t4] (RetN news (quot o u e d)) := by
  unfold Ctr
  intro dp un gd cn cs a ccd cl outer A₀ base h₀ L m s Q E B F X₀ N T hk hd hu hret
  have ho' : cd o ≤ 1000 := ho
  have hu' : cd u ≤ 1000 := hu0
  have ho2 := cd_nonneg o
  have hu2 := cd_nonneg u
  refine wpAny_call ?_
  k_dflt cell_enter
  k_steps
  · exact retN_of hret (by k_asm) (by k_asm) (by k_mem) (by kcj_all) (And.right (by assumption)) (quot_a (by assumption) (by assumption))
  · exact retN_of hret (by k_asm) (by k_asm) (by k_mem) (by kcj_all) (And.right (by assumption)) (quot_b (by assumption) (by assumption))
  · exact retN_of hret (by k_asm) (by k_asm) (by k_mem) (by kcj_all) (And.right (by assumption)) (quot_c (by assumption) (by assumption))
  · exact retN_of hret (by k_asm) (by k_asm) (by k_mem) (by kcj_all) (And.right (by assumption)) (quot_d (by assumption) (by assumption))
theorem cb_quot {o u e d : Int} {i : Nat} (ho : CB o i) : CB (quot o u e d).1 (i + (max (d + 2 + cd u - cd o) 0).toNat + 3) := by
  unfold quot
  simp only
  generalize (max (d + 2 + cd u - cd o) 0).toNat = k
  have h1 : o.natAbs * 10 ^ k / u.natAbs ≤ o.natAbs * 10 ^ k := Nat.div_le_self _ _
  have h2 : o.natAbs * 10 ^ k < 10 ^ (i + k) := by rw [Nat.pow_add]; exact Nat.mul_lt_mul_of_pos_right ho.lt (p10_pos k)
  have h3 : 10 ^ (i + k + 3) = 10 ^ (i + k) * 1000 := by rw [Nat.pow_add]
  refine CB.of_lt ?_
  rw [h3]
  have h4 : ∀ b : Int, 0 ≤ b → b ≤ 1 → (10 * ((o.natAbs * 10 ^ k / u.natAbs : Nat) : Int) + b).natAbs < 10 ^ (i + k) * 1000 := by
    intro b hb hb'
    generalize o.natAbs * 10 ^ k / u.natAbs = q at h1 ⊢
    generalize o.natAbs * 10 ^ k = r at h1 h2
    generalize 10 ^ (i + k) = z at h2 ⊢
    omega
  have h5 : (10 * ((o.natAbs * 10 ^ k / u.natAbs : Nat) : Int) + (if o.natAbs * 10 ^ k % u.natAbs = 0 then 0 else 1)).natAbs < 10 ^ (i + k) * 1000 := by
    split
    · exact h4 0 (by omega) (by omega)
    · exact h4 1 (by omega) (by omega)
  split
  · exact h5
  · rw [Int.natAbs_neg]; exact h5
end
end Mine

theorem Mine.lines_quot : True := by
  k_with "call ref" => (k_here; (with_reducible show wpAny _ _ (call (Value.ref 103) _) _ _ _); k_dflt (refine' Mine.use_ctr (Mine.ct_quot _ _ _ _ _ _ _ _ _ ?kh1qq ?kh2qq ?kh3qq ?kh4qq ?kh5qq) ?k1qq ?k2qq ?k3qq ?k4qq ?k5qq ?kKqq ?kdqq ?kuqq ?_; (case k1qq => k_asm); (case k2qq => k_asm); (case k3qq => k_asm); (case k4qq => k_asm); (case k5qq => k_asm); (case kKqq => first | exact rfl | assumption); (case kdqq => ktr_room); (case kuqq => ktr_units); (case kh1qq => (refine' Mine.CB.le ?cbaqq ?cbbqq; (case cbaqq => k_extra "tb_start"); (case cbbqq => omega))); (case kh2qq => (refine' Mine.CB.le ?cbcqq ?cbdqq; (case cbcqq => k_extra "tb_start"); (case cbdqq => omega))); (case kh3qq => first | assumption | omega); (case kh4qq => first | assumption | omega); (case kh5qq => first | assumption | omega)); (intro D9zz t9zz u9zz c9zz h9zz tk9zz F9zz N9zz l9zz); (try dsimp only); (try k_fold); (try k_sweep))
  k_with "tb_start" => repeat' (first | (with_reducible assumption) | with_reducible apply Mine.CB.pow10 | with_reducible apply Mine.CB.mul | with_reducible apply Mine.CB.add | with_reducible apply Mine.CB.sub | with_reducible apply Mine.CB.neg | with_reducible apply Mine.CB.max | with_reducible apply Mine.CB.ite | with_reducible apply Mine.CB.pow | with_reducible apply Mine.CB.fdiv | with_reducible apply Mine.CB.fmod | with_reducible apply Mine.cb_quot | (refine Mine.CB.of_lt (k := 20) ?_; omega) | fail "tb_start")
  trivial

theorem Mine.off_rdiv : True := by
  w_top off
  trivial

namespace Mine
section
variable {prog : Program} {w : World} {p : Program} {loose : List Str} {mean : ExcName → Option Value} {mg mb : Str → Option Value}
theorem rdivP_0 {x0 x1 y0 y1 d tp : Int} (h : y0 = 0) : rdivP x0 x1 y0 y1 d tp = none := if_pos h
theorem rdivP_n {x0 x1 y0 y1 d tp : Int} {z : Option (Int × Int)} (h : y0 ≠ 0) (e : rreal (quot x0 y0 (x1 - y1) d).1 (quot x0 y0 (x1 - y1) d).2 d tp = z) : rdivP x0 x1 y0 y1 d tp = z := (if_neg h).trans e

set_option maxHeartbeats 4000000 in
theorem ct_rdiv (news : Led) (X Y : Addr) (x0 x1 y0 y1 d tp : Int) (t1 t2 u1 u2 v q : Tok) (c c' : Nat) (hX : (X, pairObj x0 x1 t1 t2 c) ∈ news) (hY : (Y, pairObj y0 y1 u1 u2 c') ∈ news)
    (hx : CB x0 20) (hy : CB y0 20) (hd0 : 0 ≤ d) (hd1 : d ≤ 20) :
    CtrE prog w p loose mean mg mb 131 18 news [.ref X, .ref Y, .int d v, .int tp q]
      (RetO news (rdivP x0 x1 y0 y1 d tp)) (rdivP x0 x1 y0 y1 d tp = none) := by
  unfold CtrE
  intro dp un gd cn cs a ccd cl outer A₀ base h₀ L m s Q E B F X₀ N T hk hd hu hret hexc
  have hx' : cd x0 ≤ 20 := hx
  have hy' : cd y0 ≤ 20 := hy
  have hx2 := cd_nonneg x0
  have hy2 := cd_nonneg y0
  refine wpAny_call ?_
  k_dflt cell_enter
  k_steps
  · exact hexc (rdivP_0 (by assumption)) _ _ _ _ (by assumption) (by assumption) (raisedN_sub (by assumption) (by kcj_all))
  · exact retP_of (hret _ (rdivP_n (by assumption) (by assumption))) (by assumption) (by k_asm) (by k_asm) (by k_mem) (by kcj_all) (allLt_sub (by assumption) (by kcj_all)) rfl
  · exact retP0_of (hret _ (rdivP_n (by assumption) (by assumption))) (by assumption) (by k_asm) (by k_asm) (by kcj_all) rfl
  · exact hexc (rdivP_n (by assumption) (by assumption)) _ _ _ _ (by assumption) (by assumption) (raisedN_sub (by assumption) (by kcj_all))
end
end Mine

theorem Mine.lines_rdiv : True := by
  k_with "call ref" => (k_here; (with_reducible show wpAny _ _ (call (Value.ref 131) _) _ _ _); k_dflt (refine' Mine.use_ctrE (Mine.ct_rdiv _ _ _ _ _ _ _ _ _ _ _ _ _ _ _ _ _ ?kXqq ?kYqq ?kh1qq ?kh2qq ?kh3qq ?kh4qq) ?k1qq ?k2qq ?k3qq ?k4qq ?k5qq ?kKqq ?kdqq ?kuqq ?_ ?_; (case k1qq => k_asm); (case k2qq => k_asm); (case k3qq => k_asm); (case k4qq => k_asm); (case k5qq => k_asm); (case kKqq => first | exact rfl | assumption); (case kdqq => ktr_room); (case kuqq => ktr_units); (case kXqq => k_extra "tb_rel"); (case kYqq => k_extra "tb_rel"); (case kh1qq => first | assumption | omega); (case kh2qq => first | assumption | omega); (case kh3qq => first | assumption | omega); (case kh4qq => first | assumption | omega)); rotate_left; (intro hx9zz e9zz g9zz h9zz tk9zz F9zz U9zz R9zz); rotate_left; (refine' fun y9zz hy9zz => ⟨fun hp9zz D9zz t9zz u9zz c9zz h9zz tk9zz F9zz N9zz l9zz => ?_, fun hp9zz h9zz tk9zz F9zz N9zz => ?_⟩); all_goals (try dsimp only); all_goals (try k_fold); all_goals (try k_sweep))
  trivial

theorem Mine.off_rcomp : True := by
  w_top off
  trivial

namespace Mine
section
variable {prog : Program} {w : World} {p : Program} {loose : List Str} {mean : ExcName → Option Value} {mg mb : Str → Option Value}

theorem rcmp_0 {x0 x1 y0 y1 : Int} (h : x0 * 10 ^ (x1 - min x1 y1).toNat + -y0 * 10 ^ (y1 - min x1 y1).toNat = 0) : rcmp x0 x1 y0 y1 = 0 := by unfold rcmp; simp only; rw [if_pos h]
theorem rcmp_p {x0 x1 y0 y1 : Int} (h : x0 * 10 ^ (x1 - min x1 y1).toNat + -y0 * 10 ^ (y1 - min x1 y1).toNat ≠ 0) (h2 : 0 < x0 * 10 ^ (x1 - min x1 y1).toNat + -y0 * 10 ^ (y1 - min x1 y1).toNat) : rcmp x0 x1 y0 y1 = 1 := by unfold rcmp; simp only; rw [if_neg h, if_pos h2]
theorem rcmp_n {x0 x1 y0 y1 : Int} (h : x0 * 10 ^ (x1 - min x1 y1).toNat + -y0 * 10 ^ (y1 - min x1 y1).toNat ≠ 0) (h2 : ¬ 0 < x0 * 10 ^ (x1 - min x1 y1).toNat + -y0 * 10 ^ (y1 - min x1 y1).toNat) : rcmp x0 x1 y0 y1 = -1 := by unfold rcmp; simp only; rw [if_neg h, if_neg h2]
theorem rtoi_a {m e : Int} (h : 0 ≤ e) : rtoi m e = m * 10 ^ e.toNat := if_pos h
theorem rtoi_b {m e : Int} (h : ¬ 0 ≤ e) (h2 : 0 < m) : rtoi m e = (if m < 0 then -m else m).fdiv (10 ^ (-e).toNat) := by rw [(abs_parts m (-e).toNat).1]; unfold rtoi; rw [if_neg (by omega), if_pos (by omega)]
theorem rtoi_c {m e : Int} (h : ¬ 0 ≤ e) (h2 : ¬ 0 < m) : rtoi m e = -(if m < 0 then -m else m).fdiv (10 ^ (-e).toNat) := by rw [(abs_parts m (-e).toNat).1]; unfold rtoi; rw [if_neg (by omega), if_neg (by omega)]

set_option maxHeartbeats 4000000 in
theorem ct_rcomp (news : Led) (X Y : Addr) (x0 x1 y0 y1 : Int) (t1 t2 u1 u2 : Tok) (c c' : Nat) (hX : (X, pairObj x0 x1 t1 t2 c) ∈ news) (hY : (Y, pairObj y0 y1 u1 u2 c') ∈ news)
    (hx : CB x0 20) (hy : CB y0 20) (hxl : -200 ≤ x1) (hxh : x1 ≤ 200) (hyl : -200 ≤ y1) (hyh : y1 ≤ 200) :
    Ctr prog w p loose mean mg mb 138 10 news [.ref X, .ref Y] (RetI news (rcmp x0 x1 y0 y1)) := by
  unfold Ctr
  intro dp un gd cn cs a ccd cl outer A₀ base h₀ L m s Q E B F X₀ N T hk hd hu hret
  refine wpAny_call ?_
  k_dflt cell_enter
  k_steps
  · exact retI2 hret (by k_asm) (by k_asm) (by kcj_all) (rcmp_0 (by assumption)).symm
  · exact retI2 hret (by k_asm) (by k_asm) (by kcj_all) (rcmp_p (by assumption) (by assumption)).symm
  · exact retI2 hret (by k_asm) (by k_asm) (by kcj_all) (rcmp_n (by assumption) (by assumption)).symm

set_option maxHeartbeats 4000000 in
theorem ct_rtoi (news : Led) (X : Addr) (x0 x1 : Int) (t1 t2 : Tok) (c : Nat) (hX : (X, pairObj x0 x1 t1 t2 c) ∈ news) (hx : CB x0 20) (hxl : -200 ≤ x1) (hxh : x1 ≤ 200) :
    Ctr prog w p loose mean mg mb 152 10 news [.ref X] (RetI news (rtoi x0 x1)) := by
  unfold Ctr
  intro dp un gd cn cs a ccd cl outer A₀ base h₀ L m s Q E B F X₀ N T hk hd hu hret
  refine wpAny_call ?_
  k_dflt cell_enter
  k_steps
  · exact retI2 hret (by k_asm) (by k_asm) (by kcj_all) (rtoi_a (by assumption)).symm
  · exact retI2 hret (by k_asm) (by k_asm) (by kcj_all) (rtoi_b (by assumption) (by assumption)).symm
  · exact retI2 hret (by k_asm) (by k_asm) (by kcj_all) (rtoi_c (by assumption) (by assumption)).symm
end
end Mine


theorem Mine.off_raised : True := by
  w_top off
  trivial

namespace Mine
theorem rloop_done {f x : Int × Int} {n d : Int} (h : ¬ 0 < n) : rloop f x n d = f := by rw [rloop, dif_pos (by omega)]
theorem rloop_odd {f x : Int × Int} {n d : Int} (h : 0 < n) (h2 : n.fmod 2 = 1) : rloop f x n d = rloop (rdig (f.1 * x.1) (f.2 + x.2) (d + 8)) (rdig (x.1 * x.1) (2 * x.2) (d + 8)) (n.fdiv 2) d := by
  rw [Int.fmod_eq_emod_of_nonneg _ (by decide)] at h2
  rw [Int.fdiv_eq_ediv_of_nonneg _ (by decide)]
  conv => lhs; rw [rloop, dif_neg (by omega), if_pos h2]
theorem rloop_even {f x : Int × Int} {n d : Int} (h : 0 < n) (h2 : ¬ n.fmod 2 = 1) : rloop f x n d = rloop f (rdig (x.1 * x.1) (2 * x.2) (d + 8)) (n.fdiv 2) d := by
  rw [Int.fmod_eq_emod_of_nonneg _ (by decide)] at h2
  rw [Int.fdiv_eq_ediv_of_nonneg _ (by decide)]
  conv => lhs; rw [rloop, dif_neg (by omega), if_neg h2]
/-- raised -/
theorem cd_strip {m e : Int} : cd (strip m e).1 ≤ cd m := by
  suffices h : ∀ k : Nat, ∀ m e : Int, m.natAbs ≤ k → cd (strip m e).1 ≤ cd m from h _ m e (Nat.le_refl _)
  intro k
  induction k with
  | zero => intro m e h1; have : m = 0 := by omega
            subst this; rw [strip_zero]; exact Int.le_refl _
  | succ k ih =>
    intro m e h1
    by_cases h0 : m = 0
    · subst h0; rw [strip_zero]; exact Int.le_refl _
    · by_cases h : m % 10 = 0
      · rw [strip_step e h0 h]
        refine Int.le_trans (ih _ _ (by omega)) ?_
        unfold cd
        have := ndn_mono (a := (m / 10).natAbs) (b := m.natAbs) (by omega)
        omega
      · rw [strip_done e h0 h]; exact Int.le_refl _
theorem rne_le {a k : Nat} : rne a (10 ^ k) ≤ a / 10 ^ k + 1 := by
  unfold rne; split <;> omega
theorem cd_rdig {m e d : Int} (hd : 0 ≤ d) : cd (rdig m e d).1 ≤ d + 1 := by
  unfold rdig
  split
  · rename_i h
    refine Int.le_trans cd_strip ?_
    have hb : rne m.natAbs (10 ^ (cd m - d).toNat) ≤ 10 ^ d.toNat := by
      refine Nat.le_trans rne_le ?_
      have h1 := ndn_lt m.natAbs
      have e : ndn m.natAbs = d.toNat + (cd m - d).toNat := by unfold cd at *; omega
      rw [e, Nat.pow_add] at h1
      exact Nat.div_lt_of_lt_mul (by rw [Nat.mul_comm]; exact h1)
    have hc : ndn (rne m.natAbs (10 ^ (cd m - d).toNat)) ≤ d.toNat + 1 := ndn_le_of_lt (Nat.lt_of_le_of_lt hb (Nat.pow_lt_pow_right (by decide) (by omega)))
    have : ∀ z : Int, z.natAbs = rne m.natAbs (10 ^ (cd m - d).toNat) → cd z ≤ d + 1 := by
      intro z hz
      unfold cd
      rw [hz]
      omega
    split
    · exact this _ (by simp)
    · exact this _ (by simp)
  · rename_i h
    refine Int.le_trans cd_strip ?_
    omega
theorem cb_rdig {m e d : Int} (hd : 0 ≤ d) (h : d ≤ 20) : CB (rdig m e d).1 30 := by
  have := cd_rdig (m := m) (e := e) hd
  unfold CB; omega

/-- a value that is a pair of ints -/
def PVal (news : Led) (v : Value) (x : Int × Int) : Prop := (∃ D t1 t2 c, v = .ref D ∧ (D, pairObj x.1 x.2 t1 t2 c) ∈ news) ∨ (v = .ref 47 ∧ x = (0, 0))
theorem PVal.of {news : Led} {D : Addr} {a b : Int} {t1 t2 : Tok} {c : Nat} (h : (D, pairObj a b t1 t2 c) ∈ news) : PVal news (.ref D) (a, b) := .inl ⟨D, t1, t2, c, rfl, h⟩
theorem PVal.mono {news news' : Led} {v : Value} {x : Int × Int} (h : PVal news v x) (hs : ∀ p ∈ news, p ∈ news') : PVal news' v x := by
  rcases h with ⟨D, t1, t2, c, h1, h2⟩ | h
  · exact .inl ⟨D, t1, t2, c, h1, hs _ h2⟩
  · exact .inr h

section
variable {prog : Program} {w : World} {A : Around} {E : Value → Shared → Prop} {s : Shared} {h₀ : Heap} {L : Addr} {m : Str → Option Value} {news news' : Led}
theorem pv_it0 {x : Int × Int} {v : Value} {u : Tok} {value slice : PySem.Expr} {Q : Value → Shared → Prop} (P : PVal news' v x) (hs' : ∀ p ∈ news', p ∈ news) (F : Fr h₀ L s.heap m) (X₀ : (Mine.hd.heap_1 w.params).In h₀) (N : News h₀ L s.heap news) (h : ∀ t, Q (.int x.1 t) s)
    (hs : ∀ D, subscripted slice false (.ref D) (.int 0 u) = operate [.ref D, .int 0 u] (getItem (.ref D) (.int 0 u)) := by intro _; with_unfolding_all rfl) :
    wpAny (model prog w) A (subscriptTail value slice v (.int 0 u)) Q E s := by
  rcases P with ⟨D, t1, t2, c, rfl, hm⟩ | ⟨rfl, rfl⟩
  · exact pair_it0 N (hs' _ hm) (h t1) (hs D)
  · exact topTup_K (j := 0) (l := [.int 0 236, .int 0 237]) F X₀ (by k_is) (by decide) (by decide) rfl rfl (h 236) (hs 47)
theorem pv_it1 {x : Int × Int} {v : Value} {u : Tok} {value slice : PySem.Expr} {Q : Value → Shared → Prop} (P : PVal news' v x) (hs' : ∀ p ∈ news', p ∈ news) (F : Fr h₀ L s.heap m) (X₀ : (Mine.hd.heap_1 w.params).In h₀) (N : News h₀ L s.heap news) (h : ∀ t, Q (.int x.2 t) s)
    (hs : ∀ D, subscripted slice false (.ref D) (.int 1 u) = operate [.ref D, .int 1 u] (getItem (.ref D) (.int 1 u)) := by intro _; with_unfolding_all rfl) :
    wpAny (model prog w) A (subscriptTail value slice v (.int 1 u)) Q E s := by
  rcases P with ⟨D, t1, t2, c, rfl, hm⟩ | ⟨rfl, rfl⟩
  · exact pair_it1 N (hs' _ hm) (h t2) (hs D)
  · exact topTup_K (j := 1) (l := [.int 0 236, .int 0 237]) F X₀ (by k_is) (by decide) (by decide) rfl rfl (h 237) (hs 47)
/-- both ways of a pair that comes back as one -/
theorem retP_one {x : Int × Int} {Q : Value → Shared → Prop} (h : ∀ v nx h' tk', Fr h₀ L h' m → News h₀ L h' nx → (∀ p ∈ news, p ∈ nx) → PVal nx v x → Q v { s with heap := h', toks := tk' }) : RetP news x h₀ L m s Q :=
  ⟨fun _ D t1 t2 c h' tk' F N _ => h _ _ h' tk' F N (fun _ hp => .tail _ hp) (.inl ⟨D, t1, t2, c, rfl, .head _⟩), fun e h' tk' F N => h _ _ h' tk' F N (fun _ hp => hp) (.inr ⟨rfl, e⟩)⟩

abbrev mset3 (m : Str → Option Value) (vf vx : Value) (k : Int) (tk : Tok) : Str → Option Value :=
  fun y => if y = Str.ofString "found" then some vf else if y = Str.ofString "x" then some vx else if y = Str.ofString "n" then some (.int k tk) else m y

def WPEnd (h₀ : Heap) (L : Addr) (s : Shared) (d : Int) (R : Int × Int) (m₀ : Str → Option Value) (news : Led) (Q : Flow → Shared → Prop) (k : Int) (f : Flow) (s₂ : Shared) : Prop :=
  match f with
  | .ret v => Q (.ret v) s₂
  | .brk => Q .next s₂
  | _ => ∃ h' tk m' nx vf vx f x k' t', s₂ = { s with heap := h', toks := tk } ∧ Fr h₀ L h' m' ∧ News h₀ L h' nx ∧ (∀ p ∈ news, p ∈ nx) ∧ m' (Str.ofString "found") = some vf ∧ m' (Str.ofString "x") = some vx ∧ m' (Str.ofString "n") = some (.int k' t') ∧
      PVal nx vf f ∧ PVal nx vx x ∧ (0 ≤ k' ∧ k' < k) ∧ CB f.1 30 ∧ CB x.1 30 ∧ rloop f x k' d = R ∧ ∀ y, y ≠ Str.ofString "found" → y ≠ Str.ofString "x" → y ≠ Str.ofString "n" → m' y = m₀ y

structure WPow (d : Int) (R : Int × Int) : Prop where
theorem while_pow {Q : Flow → Shared → Prop} {env : Env} {test : Expr} {body : List Stmt} {pos : Pos} {m₀ : Str → Option Value} {vf₀ vx₀ : Value} {fa fb xa xb : Int} {k₀ : Int} {t₀ : Tok} {d : Int} {R : Int × Int} (_ : WPow d R)
    (F : Fr h₀ L s.heap m₀) (N : News h₀ L s.heap news) (hf : m₀ (Str.ofString "found") = some vf₀) (hx : m₀ (Str.ofString "x") = some vx₀) (hn : m₀ (Str.ofString "n") = some (.int k₀ t₀))
    (Pf : PVal news vf₀ (fa, fb)) (Px : PVal news vx₀ (xa, xb)) (h0 : 0 ≤ k₀) (cf : CB fa 30) (cx : CB xa 30) (hR : rloop (fa, fb) (xa, xb) k₀ d = R)
    (turn : ∀ vf vx f x k t nx h tk, (∀ p ∈ news, p ∈ nx) → PVal nx vf f → PVal nx vx x → 0 ≤ k → CB f.1 30 → CB x.1 30 → rloop f x k d = R → Fr h₀ L h (mset3 m₀ vf vx k t) → News h₀ L h nx →
      wpAny (model prog w) A (isTrue test env (eval test env)) (fun b' s₂ =>
        if b' = true then wpAny (model prog w) A (execs body env) (WPEnd h₀ L s d R m₀ news Q k) E s₂ else Q .next s₂) E { s with heap := h, toks := tk })
    (hE : PassesOwn (model prog w) A env E := by passes_own) :
    wpAny (model prog w) A (exec (.While test body [] pos) env) Q E s := by
  refine While_inv2 (fun n m nx => (∀ p ∈ news, p ∈ nx) ∧ ∃ vf vx f x k t, k.toNat = n ∧ m (Str.ofString "found") = some vf ∧ m (Str.ofString "x") = some vx ∧ m (Str.ofString "n") = some (.int k t) ∧ PVal nx vf f ∧ PVal nx vx x ∧ 0 ≤ k ∧ CB f.1 30 ∧ CB x.1 30 ∧ rloop f x k d = R ∧
      ∀ y, y ≠ Str.ofString "found" → y ≠ Str.ofString "x" → y ≠ Str.ofString "n" → m y = m₀ y) F N ⟨fun _ h => h, vf₀, vx₀, (fa, fb), (xa, xb), k₀, t₀, rfl, hf, hx, hn, Pf, Px, h0, cf, cx, hR, fun _ _ _ _ => rfl⟩ ?_ hE
  rintro n m₁ nx h tk F₁ N₁ ⟨hnx, vf, vx, f, x, k, t, hsz, hf, hx, hn, Pf, Px, h0, cf, cx, hR, hm⟩
  rw [← hsz]
  have e : mset3 m₀ vf vx k t = m₁ := by
    funext y
    show (if y = Str.ofString "found" then some vf else if y = Str.ofString "x" then some vx else if y = Str.ofString "n" then some (Value.int k t) else m₀ y) = m₁ y
    by_cases h1 : y = Str.ofString "found"
    · subst h1; rw [if_pos rfl, hf]
    · rw [if_neg h1]
      by_cases h2 : y = Str.ofString "x"
      · subst h2; rw [if_pos rfl, hx]
      · rw [if_neg h2]
        by_cases h3 : y = Str.ofString "n"
        · subst h3; rw [if_pos rfl, hn]
        · rw [if_neg h3, hm y h1 h2 h3]
  refine wpAny_mono (turn vf vx f x k t nx h tk hnx Pf Px h0 cf cx hR (by rw [e]; exact F₁) N₁) (fun b' s₂ q => ?_) fun _ _ x => x
  cases b' with
  | false => simpa using q
  | true =>
    simp only [if_true] at q ⊢
    refine wpAny_mono q (fun f s₃ q => ?_) fun _ _ x => x
    cases f with
    | ret v => exact q
    | brk => exact q
    | next =>
      obtain ⟨h', tk', m', nx', vf', vx', f', x', k', t', rfl, F', N', hs', hf', hx', hn', Pf', Px', hk', cf', cx', hR', hm'⟩ := q
      exact ⟨h', tk', m', nx', _, rfl, F', N', by omega, hs', vf', vx', f', x', k', t', rfl, hf', hx', hn', Pf', Px', hk'.1, cf', cx', hR', hm'⟩
    | cont =>
      obtain ⟨h', tk', m', nx', vf', vx', f', x', k', t', rfl, F', N', hs', hf', hx', hn', Pf', Px', hk', cf', cx', hR', hm'⟩ := q
      exact ⟨h', tk', m', nx', _, rfl, F', N', by omega, hs', vf', vx', f', x', k', t', rfl, hf', hx', hn', Pf', Px', hk'.1, cf', cx', hR', hm'⟩
end
end Mine

theorem Mine.lines_raised : True := by
  k_with "subscriptTail" => (k_here; (with_reducible show wpAny _ _ (subscriptTail _ _ _ (Value.int 0 _)) _ _ _); k_dflt (refine' Mine.pv_it0 ?kpqq ?ksqq ?k1qq ?k2qq ?k3qq ?_; (case kpqq => with_reducible assumption); (case k1qq => k_asm); (case k2qq => k_asm); (case k3qq => k_asm); (case ksqq => first | exact fun _ hzz => hzz | assumption | kcj_all)); intro tzz')
  k_with "subscriptTail" => (k_here; (with_reducible show wpAny _ _ (subscriptTail _ _ _ (Value.int 1 _)) _ _ _); k_dflt (refine' Mine.pv_it1 ?kpqq ?ksqq ?k1qq ?k2qq ?k3qq ?_; (case kpqq => with_reducible assumption); (case k1qq => k_asm); (case k2qq => k_asm); (case k3qq => k_asm); (case ksqq => first | exact fun _ hzz => hzz | assumption | kcj_all)); intro tzz')
  k_with "exec While" => (k_here; k_dflt (refine' Mine.while_pow ?kwqq ?k1qq ?k2qq ?k3qq ?k4qq ?k5qq ?p1qq ?p2qq ?p3qq ?p4qq ?p5qq ?_ ?_; (case kwqq => assumption); (case k1qq => k_asm); (case k2qq => k_asm); (case k3qq => rfl); (case k4qq => rfl); (case k5qq => rfl); (case p1qq => (refine' Mine.PVal.of ?pmqq; (case pmqq => first | k_extra "tb_rel" | k_mem))); (case p2qq => (refine' Mine.PVal.of ?pnqq; (case pnqq => first | k_extra "tb_rel" | k_mem))); (case p3qq => omega); (case p4qq => exact Mine.CB.of_lt (by decide)); (case p5qq => exact Mine.CB.le (by assumption) (by decide))); (all_goals skip); rotate_left; (focus ((intro vfzz' vxzz' fzz' xzz' kzz' tzz' nxzz' hzz' tkzz' hszz' hfzz' hxzz' h0zz' cfzz' cxzz' hRzz' Fzz' Nzz'); (try k_sweep))))
  k_with "exec While Compare cons nil" => (k_here; k_dflt (refine' Mine.while_pow ?kwqq ?k1qq ?k2qq ?k3qq ?k4qq ?k5qq ?p1qq ?p2qq ?p3qq ?p4qq ?p5qq ?_ ?_; (case kwqq => assumption); (case k1qq => k_asm); (case k2qq => k_asm); (case k3qq => rfl); (case k4qq => rfl); (case k5qq => rfl); (case p1qq => (refine' Mine.PVal.of ?pmqq; (case pmqq => first | k_extra "tb_rel" | k_mem))); (case p2qq => (refine' Mine.PVal.of ?pnqq; (case pnqq => first | k_extra "tb_rel" | k_mem))); (case p3qq => omega); (case p4qq => exact Mine.CB.of_lt (by decide)); (case p5qq => exact Mine.CB.le (by assumption) (by decide))); (all_goals skip); rotate_left; (focus ((intro vfzz' vxzz' fzz' xzz' kzz' tzz' nxzz' hzz' tkzz' hszz' hfzz' hxzz' h0zz' cfzz' cxzz' hRzz' Fzz' Nzz'); (try k_sweep))))
  k_with "call ref" => (k_here; (with_reducible show wpAny _ _ (call (Value.ref 68) _) _ _ _); k_dflt (refine' Mine.use_ctr (Mine.ct_rdig _ _ _ _ _ _ _ ?kh1qq ?kh2qq) ?k1qq ?k2qq ?k3qq ?k4qq ?k5qq ?kKqq ?kdqq ?kuqq ?_; (case k1qq => k_asm); (case k2qq => k_asm); (case k3qq => k_asm); (case k4qq => k_asm); (case k5qq => k_asm); (case kKqq => first | exact rfl | assumption); (case kdqq => ktr_room); (case kuqq => ktr_units); (case kh1qq => (refine' Mine.CB.le ?cbaqq ?cbbqq; (case cbaqq => k_extra "tb_start"); (case cbbqq => omega))); (case kh2qq => first | assumption | omega)); (refine Mine.retP_one fun v9zz nx9zz h9zz tk9zz F9zz N9zz s9zz p9zz => ?_); (try dsimp only); (try k_fold); (try k_sweep))
  trivial

theorem Mine.off_raised2 : True := by
  w_top off
  trivial

namespace Mine
/-- a pair, new or written -/
abbrev RetP2 (news : Led) (x : Int × Int) (h₀ : Heap) (L : Addr) (m : Str → Option Value) (s : Shared) (Q : Value → Shared → Prop) : Prop :=
  (∀ (D : Addr) (t1 t2 : Tok) (c : Nat) (h' : Heap) (tk' : Nat), Fr h₀ L h' m → News h₀ L h' ((D, pairObj x.1 x.2 t1 t2 c) :: news) → Q (.ref D) { s with heap := h', toks := tk' }) ∧ (x = (0, 0) → Ret0 news h₀ L m s Q)
section
variable {prog : Program} {w : World} {p : Program} {loose : List Str} {mean : ExcName → Option Value} {mg mb : Str → Option Value}
theorem retP2_v {news nx : Led} {x X : Int × Int} {v : Value} {h₀ h' : Heap} {L : Addr} {m : Str → Option Value} {s : Shared} {Q : Value → Shared → Prop} {tk' : Nat} (R : RetP2 news x h₀ L m s Q) (F : Fr h₀ L h' m) (N : News h₀ L h' nx) (hs : ∀ p ∈ news, p ∈ nx) (P : PVal nx v X) (e : x = X) : Q v { s with heap := h', toks := tk' } := by
  subst e
  rcases P with ⟨D, t1, t2, c, rfl, hm⟩ | ⟨rfl, e⟩
  · refine R.1 D t1 t2 c h' tk' F fun p hp => ?_
    rcases List.mem_cons.mp hp with rfl | hp
    · exact N _ hm
    · exact N p (hs p hp)
  · exact R.2 e h' tk' F fun p hp => N p (hs p hp)

theorem raisedP_lo {x0 x1 n d : Int} (h : n ≤ 64) : raisedP x0 x1 n d = (x0 ^ n.toNat, x1 * n) := if_pos h
theorem raisedP_hi {x0 x1 n d k : Int} {f x : Int × Int} (h : ¬ n ≤ 64) (hk : ¬ 0 < k) (hR : rloop f x k d = rloop (1, 0) (x0, x1) n d) : raisedP x0 x1 n d = f := by
  unfold raisedP; rw [if_neg h, ← hR, rloop_done hk]
theorem half_lt {k : Int} (h : 0 < k) : 0 ≤ k.fdiv 2 ∧ k.fdiv 2 < k := by rw [Int.fdiv_eq_ediv_of_nonneg _ (by decide)]; omega
theorem rloop_end1 {f x : Int × Int} {k d : Int} {R : Int × Int} (h : 0 < k) (h2 : k.fmod 2 = 1) (hR : rloop f x k d = R) : rloop (rdig (f.1 * x.1) (f.2 + x.2) (d + 8)) (rdig (x.1 * x.1) (2 * x.2) (d + 8)) (k.fdiv 2) d = R := (rloop_odd h h2).symm.trans hR
theorem rloop_end2 {f x : Int × Int} {k d : Int} {R : Int × Int} (h : 0 < k) (h2 : ¬ k.fmod 2 = 1) (hR : rloop f x k d = R) : rloop f (rdig (x.1 * x.1) (2 * x.2) (d + 8)) (k.fdiv 2) d = R := (rloop_even h h2).symm.trans hR
theorem wpend {h₀ h' : Heap} {L : Addr} {s : Shared} {d : Int} {R : Int × Int} {m₀ m' : Str → Option Value} {news nx : Led} {Q : Flow → Shared → Prop} {k k' : Int} {vf vx : Value} {f x : Int × Int} {t' : Tok} {tk : Nat}
    (F : Fr h₀ L h' m') (N : News h₀ L h' nx) (hs : ∀ p ∈ news, p ∈ nx) (hf : m' (Str.ofString "found") = some vf) (hx : m' (Str.ofString "x") = some vx) (hn : m' (Str.ofString "n") = some (.int k' t'))
    (Pf : PVal nx vf f) (Px : PVal nx vx x) (hk : 0 ≤ k' ∧ k' < k) (cf : CB f.1 30) (cx : CB x.1 30) (hR : rloop f x k' d = R) (hm : ∀ y, y ≠ Str.ofString "found" → y ≠ Str.ofString "x" → y ≠ Str.ofString "n" → m' y = m₀ y) :
    WPEnd h₀ L s d R m₀ news Q k .next { s with heap := h', toks := tk } := ⟨h', tk, m', nx, vf, vx, f, x, k', t', rfl, F, N, hs, hf, hx, hn, Pf, Px, hk, cf, cx, hR, hm⟩

set_option maxHeartbeats 4000000 in
theorem ct_raised (news : Led) (X : Addr) (x0 x1 n d : Int) (t1 t2 t3 t4 : Tok) (c : Nat) (hX : (X, pairObj x0 x1 t1 t2 c) ∈ news) (hx : CB x0 18) (hn0 : 0 ≤ n) (hn1 : n ≤ 200) (hd0 : 0 ≤ d) (hd1 : d ≤ 12) :
    Ctr prog w p loose mean mg mb 159 6 news [.ref X, .int n t3, .int d t4] (RetP2 news (raisedP x0 x1 n d)) := by
  unfold Ctr
  intro dp un gd cn cs a ccd cl outer A₀ base h₀ L m s Q E B F X₀ N T hk hd hu hret
  have hx64 : x0.natAbs < 2 ^ 64 := Nat.lt_trans hx.lt (by decide)
  have hW : WPow d (rloop (1, 0) (x0, x1) n d) := WPow.mk
  refine wpAny_call ?_
  k_dflt cell_enter
  k_steps
  · exact retP2_v hret (by k_asm) (by k_asm) (by kcj_all) (PVal.of (by k_mem)) (raisedP_lo (by assumption))
  · refine wpend (by k_asm) (by k_asm) ?_ rfl rfl rfl (PVal.mono (by with_reducible assumption) ?_) (by with_reducible assumption) (half_lt (by assumption)) (cb_rdig (by omega) (by omega)) (cb_rdig (by omega) (by omega)) (rloop_end1 (by assumption) (by assumption) (by assumption)) ?_
    · intro p hp; solve_by_elim
    · first | exact fun _ h => h | assumption | (intro p hp; solve_by_elim)
    · intro y e1 e2 e3; simp only [mset3, if_neg e1, if_neg e2, if_neg e3]
  · refine wpend (by k_asm) (by k_asm) ?_ rfl rfl rfl (PVal.mono (by with_reducible assumption) ?_) (by with_reducible assumption) (half_lt (by assumption)) (by assumption) (cb_rdig (by omega) (by omega)) (rloop_end2 (by assumption) (by assumption) (by assumption)) ?_
    · intro p hp; solve_by_elim
    · first | exact fun _ h => h | assumption | (intro p hp; solve_by_elim)
    · intro y e1 e2 e3; simp only [mset3, if_neg e1, if_neg e2, if_neg e3]
  · exact retP2_v hret (by k_asm) (by k_asm) (by first | assumption | (intro p hp; solve_by_elim)) (by with_reducible assumption) (raisedP_hi (by assumption) (by assumption) (by assumption))
end
end Mine

theorem Mine.lines_raised2 : True := by
  k_with "call ref" => (k_here; (with_reducible show wpAny _ _ (call (Value.ref 159) _) _ _ _); k_dflt (refine' Mine.use_ctr (Mine.ct_raised _ _ _ _ _ _ _ _ _ _ _ ?kh1qq ?kh2qq ?kh3qq ?kh4qq ?kh5qq ?kh6qq) ?k1qq ?k2qq ?k3qq ?k4qq ?k5qq ?kKqq ?kdqq ?kuqq ?_; (case k1qq => k_asm); (case k2qq => k_asm); (case k3qq => k_asm); (case k4qq => k_asm); (case k5qq => k_asm); (case kKqq => first | exact rfl | assumption); (case kdqq => ktr_room); (case kuqq => ktr_units); (case kh1qq => k_extra "tb_rel"); (case kh2qq => (refine' Mine.CB.le ?cbaqq ?cbbqq; (case cbaqq => k_extra "tb_start"); (case cbbqq => omega))); (case kh3qq => first | assumption | omega); (case kh4qq => first | assumption | omega); (case kh5qq => first | assumption | omega); (case kh6qq => first | assumption | omega)); (refine ⟨fun D9zz t9zz u9zz c9zz h9zz tk9zz F9zz N9zz => ?_, fun hp9zz h9zz tk9zz F9zz N9zz => ?_⟩) <;> (try dsimp only) <;> (try k_fold) <;> (try k_sweep))
  trivial

theorem Mine.off_rpow : True := by
  w_top off
  trivial

namespace Mine
theorem rne_pos {a k : Nat} (h : 10 ^ k ≤ a) : 1 ≤ rne a (10 ^ k) := by
  unfold rne
  have : 1 ≤ a / 10 ^ k := (Nat.one_le_div_iff (p10_pos k)).mpr h
  omega
theorem rdig_ne {m e d : Int} (h : m ≠ 0) (hd : 1 ≤ d) : (rdig m e d).1 ≠ 0 := by
  unfold rdig
  split
  · rename_i h1
    refine strip_ne _ ?_
    have h2 := ndn_le (n := m.natAbs) (by omega)
    have h3 : 10 ^ (cd m - d).toNat ≤ m.natAbs := Nat.le_trans (pow_mono (by unfold cd; omega)) h2
    have h4 := rne_pos h3
    split <;> omega
  · exact strip_ne _ h
theorem rloop_ne {d : Int} (hd : 0 ≤ d) : ∀ (k : Nat) (n : Int) (f x : Int × Int), n.toNat ≤ k → f.1 ≠ 0 → x.1 ≠ 0 → (rloop f x n d).1 ≠ 0
  | 0, n, f, x, hk, hf, hx => by rw [rloop_done (by omega)]; exact hf
  | k + 1, n, f, x, hk, hf, hx => by
    by_cases h : 0 < n
    · have h2 := half_lt h
      have hx' : (rdig (x.1 * x.1) (2 * x.2) (d + 8)).1 ≠ 0 := rdig_ne (Int.mul_ne_zero hx hx) (by omega)
      by_cases h3 : n.fmod 2 = 1
      · rw [rloop_odd h h3]
        exact rloop_ne hd k _ _ _ (by omega) (rdig_ne (Int.mul_ne_zero hf hx) (by omega)) hx'
      · rw [rloop_even h h3]
        exact rloop_ne hd k _ _ _ (by omega) hf hx'
    · rw [rloop_done h]; exact hf
theorem rloop_cb {d : Int} (hd : 0 ≤ d) (hd1 : d ≤ 12) : ∀ (k : Nat) (n : Int) (f x : Int × Int), n.toNat ≤ k → CB f.1 30 → CB (rloop f x n d).1 30
  | 0, n, f, x, hk, hf => by rw [rloop_done (by omega)]; exact hf
  | k + 1, n, f, x, hk, hf => by
    by_cases h : 0 < n
    · have h2 := half_lt h
      by_cases h3 : n.fmod 2 = 1
      · rw [rloop_odd h h3]
        exact rloop_cb hd hd1 k _ _ _ (by omega) (cb_rdig (by omega) (by omega))
      · rw [rloop_even h h3]
        exact rloop_cb hd hd1 k _ _ _ (by omega) hf
    · rw [rloop_done h]; exact hf
theorem raisedP_ne {x0 x1 n d : Int} (h : x0 ≠ 0) (hd : 0 ≤ d) : (raisedP x0 x1 n d).1 ≠ 0 := by
  unfold raisedP
  split
  · exact Int.pow_ne_zero h
  · exact rloop_ne hd _ n _ _ (Nat.le_refl _) (by decide) h
theorem raisedP_cb {x0 x1 n d : Int} (h : CB x0 9) (hn : 0 ≤ n) (hd : 0 ≤ d) (hd1 : d ≤ 12) : CB (raisedP x0 x1 n d).1 600 := by
  unfold raisedP
  split
  · exact (h.pow n.toNat).le (by omega)
  · exact (rloop_cb hd hd1 _ n _ _ (Nat.le_refl _) (CB.of_lt (by decide))).le (by decide)

section
variable {prog : Program} {w : World} {p : Program} {loose : List Str} {mean : ExcName → Option Value} {mg mb : Str → Option Value}

theorem rpow_0 {x0 x1 n d tp : Int} (h1 : n < 0) (h2 : x0 = 0) : rpowP x0 x1 n d tp = none := if_pos ⟨h1, h2⟩
theorem rpow_neg {x0 x1 n d tp : Int} {z : Option (Int × Int)} (h1 : n < 0) (h2 : x0 ≠ 0) (e : rreal (quot 1 (raisedP x0 x1 (if n < 0 then -n else n) d).1 (-(raisedP x0 x1 (if n < 0 then -n else n) d).2) d).1 (quot 1 (raisedP x0 x1 (if n < 0 then -n else n) d).1 (-(raisedP x0 x1 (if n < 0 then -n else n) d).2) d).2 d tp = z) : rpowP x0 x1 n d tp = z := by
  unfold rpowP; rw [if_neg (fun h => h2 h.2), if_pos h1]; exact e
theorem rpow_pos {x0 x1 n d tp : Int} {z : Option (Int × Int)} (h1 : ¬ n < 0) (e : rreal (raisedP x0 x1 (if n < 0 then -n else n) d).1 (raisedP x0 x1 (if n < 0 then -n else n) d).2 d tp = z) : rpowP x0 x1 n d tp = z := by
  unfold rpowP; rw [if_neg (fun h => h1 h.1), if_neg h1]; exact e
theorem rpow_z {x0 x1 n d tp : Int} {z : Option (Int × Int)} (h1 : ¬ n < 0) (h2 : (raisedP x0 x1 (if n < 0 then -n else n) d) = (0, 0)) (e : rreal 0 0 d tp = z) : rpowP x0 x1 n d tp = z := rpow_pos h1 (by rw [h2]; exact e)

set_option maxHeartbeats 4000000 in
theorem ct_rpow (news : Led) (X : Addr) (x0 x1 n d tp : Int) (t1 t2 t3 t4 q : Tok) (c : Nat) (hX : (X, pairObj x0 x1 t1 t2 c) ∈ news) (hx : CB x0 9) (hn0 : -200 ≤ n) (hn1 : n ≤ 200) (hd0 : 0 ≤ d) (hd1 : d ≤ 12) :
    CtrE prog w p loose mean mg mb 166 22 news [.ref X, .int n t3, .int d t4, .int tp q] (RetO news (rpowP x0 x1 n d tp)) (rpowP x0 x1 n d tp = none) := by
  unfold CtrE
  intro dp un gd cn cs a ccd cl outer A₀ base h₀ L m s Q E B F X₀ N T hk hd hu hret hexc
  have hab0 : 0 ≤ (if n < 0 then -n else n) := by split <;> omega
  have hab1 : (if n < 0 then -n else n) ≤ 200 := by split <;> omega
  have hcb := raisedP_cb (x1 := x1) hx hab0 hd0 hd1
  have hcb' : cd (raisedP x0 x1 (if n < 0 then -n else n) d).1 ≤ 600 := hcb
  have hcd := cd_nonneg (raisedP x0 x1 (if n < 0 then -n else n) d).1
  have hc1 : cd 1 = 1 := by unfold cd; rw [show (1 : Int).natAbs = 1 from rfl, ndn_pos (by decide), show 1 / 10 = 0 from rfl, ndn_zero]; rfl
  have hcn : CB 1 1 := CB.of_lt (by decide)
  have hne := fun h : x0 ≠ 0 => raisedP_ne (x1 := x1) (n := (if n < 0 then -n else n)) h hd0
  refine wpAny_call ?_
  k_dflt cell_enter
  k_steps
  all_goals first
    | exact hexc (rpow_0 (by assumption) (by assumption)) _ _ _ _ (by assumption) (by assumption) (raisedN_sub (by assumption) (by kcj_all))
    | exact retP_of (hret _ (rpow_neg (by assumption) (by assumption) (by assumption))) (by assumption) (by k_asm) (by k_asm) (by k_mem) (by kcj_all) (allLt_sub (by assumption) (by kcj_all)) rfl
    | exact retP0_of (hret _ (rpow_neg (by assumption) (by assumption) (by assumption))) (by assumption) (by k_asm) (by k_asm) (by kcj_all) rfl
    | exact hexc (rpow_neg (by assumption) (by assumption) (by assumption)) _ _ _ _ (by assumption) (by assumption) (raisedN_sub (by assumption) (by kcj_all))
    | exact retP_of (hret _ (rpow_pos (by assumption) (by assumption))) (by assumption) (by k_asm) (by k_asm) (by k_mem) (by kcj_all) (allLt_sub (by assumption) (by kcj_all)) rfl
    | exact retP0_of (hret _ (rpow_pos (by assumption) (by assumption))) (by assumption) (by k_asm) (by k_asm) (by kcj_all) rfl
    | exact hexc (rpow_pos (by assumption) (by assumption)) _ _ _ _ (by assumption) (by assumption) (raisedN_sub (by assumption) (by kcj_all))
    | exact retP_of (hret _ (rpow_z (by assumption) (by assumption) (by assumption))) (by assumption) (by k_asm) (by k_asm) (by k_mem) (by kcj_all) (allLt_sub (by assumption) (by kcj_all)) rfl
    | exact retP0_of (hret _ (rpow_z (by assumption) (by assumption) (by assumption))) (by assumption) (by k_asm) (by k_asm) (by kcj_all) rfl
    | exact hexc (rpow_z (by assumption) (by assumption) (by assumption)) _ _ _ _ (by assumption) (by assumption) (raisedN_sub (by assumption) (by kcj_all))
    | exact absurd (congrArg Prod.fst (by assumption : raisedP x0 x1 (if n < 0 then -n else n) d = (0, 0))) (hne (by assumption))
end
end Mine

theorem Mine.lines_rpow : True := by
  k_with "call ref" => (k_here; (with_reducible show wpAny _ _ (call (Value.ref 166) _) _ _ _); k_dflt (refine' Mine.use_ctrE (Mine.ct_rpow _ _ _ _ _ _ _ _ _ _ _ _ _ ?kXqq ?kh1qq ?kh2qq ?kh3qq ?kh4qq ?kh5qq) ?k1qq ?k2qq ?k3qq ?k4qq ?k5qq ?kKqq ?kdqq ?kuqq ?_ ?_; (case k1qq => k_asm); (case k2qq => k_asm); (case k3qq => k_asm); (case k4qq => k_asm); (case k5qq => k_asm); (case kKqq => first | exact rfl | assumption); (case kdqq => ktr_room); (case kuqq => ktr_units); (case kXqq => k_extra "tb_rel"); (case kh1qq => first | assumption | omega); (case kh2qq => first | assumption | omega); (case kh3qq => first | assumption | omega); (case kh4qq => first | assumption | omega); (case kh5qq => first | assumption | omega)); rotate_left; (intro hx9zz e9zz g9zz h9zz tk9zz F9zz U9zz R9zz); rotate_left; (refine' fun y9zz hy9zz => ⟨fun hp9zz D9zz t9zz u9zz c9zz h9zz tk9zz F9zz N9zz l9zz => ?_, fun hp9zz h9zz tk9zz F9zz N9zz => ?_⟩); all_goals (try dsimp only); all_goals (try k_fold); all_goals (try k_sweep))
  trivial

theorem Mine.off_text : True := by
  w_top off
  trivial

namespace Mine
theorem digs_len : ∀ m : Nat, 0 < m → ((Nat.toDigits 10 m).map Char.toNat).length = ndn m := by
  intro m
  induction m using Nat.strongRecOn with
  | _ m ih =>
    intro h0
    by_cases h : m < 10
    · rw [Nat.toDigits_of_lt_base h, ndn_pos h0, show m / 10 = 0 by omega, ndn_zero]; rfl
    · have hm : m % 10 < 10 := Nat.mod_lt m (by decide)
      have t : Nat.toDigits 10 (m / 10) ++ Nat.toDigits 10 (m % 10) = Nat.toDigits 10 (10 * (m / 10) + m % 10) := Nat.toDigits_append_toDigits (by decide) (by omega) hm
      rw [Nat.div_add_mod] at t
      rw [← t, List.map_append, List.length_append, ih (m / 10) (by omega) (by omega), Nat.toDigits_of_lt_base hm, ndn_pos h0]; rfl
theorem len_text {n : Int} (h : 0 < n) : ((PySem.Str.ofString (toString n)).length : Int) = cd n := by
  obtain ⟨m, rfl⟩ := Int.eq_ofNat_of_zero_le (Int.le_of_lt h)
  have e := PySem.W.KIN.signs_num m
  have : (PySem.Str.ofString (toString ((m : Nat) : Int))).length = ndn m := by
    show (PySem.Str.ofString (toString ((m : Nat) : Int))).cps.size = _
    rw [← Array.length_toList, e, digs_len m (by omega)]
  rw [this]; unfold cd; simp
theorem goes0 : ∀ c : Nat, ((PySem.Str.ofString "0").cps.contains c) = (c == 48) := by
  intro c
  have : (PySem.Str.ofString "0").cps = #[48] := by decide +kernel
  rw [this]
  by_cases h : c = 48
  · subst h; simp
  · have h1 : (c == 48) = false := beq_eq_false_iff_ne.mpr h
    rw [h1]
    simp [h]
def rs (l : List Nat) : List Nat := (l.reverse.dropWhile (· == 48)).reverse
theorem rs_0 (l : List Nat) : rs (l ++ [48]) = rs l := by unfold rs; simp
theorem rs_n (l : List Nat) {c : Nat} (h : c ≠ 48) : rs (l ++ [c]) = l ++ [c] := by
  unfold rs
  rw [List.reverse_append]
  show (List.dropWhile _ (c :: l.reverse)).reverse = _
  rw [List.dropWhile_cons, if_neg (by simpa using h)]
  simp
theorem rstrip_list (x : PySem.Str) : (PySem.Txt.rstripChars x (PySem.Str.ofString "0")).cps.toList = rs x.cps.toList := by
  unfold PySem.Txt.rstripChars
  rw [PyProof.Rows.stripBy_eq, PySem.StrLaws.strSub_toList]
  show (List.drop 0 x.cps.toList).take (x.length - ((x.cps.toList.drop 0).reverse.takeWhile _).length - 0) = _
  rw [List.drop_zero, Nat.sub_zero]
  have hg : (fun c => (PySem.Str.ofString "0").cps.contains c) = fun c => c == 48 := funext goes0
  have hg' : (PySem.Str.ofString "0").cps.contains = fun c => c == 48 := hg
  rw [hg']
  unfold rs
  have hl : x.length = x.cps.toList.length := by simp [PySem.Str.length]
  rw [hl]
  generalize x.cps.toList = l
  have key : ∀ (p : Nat → Bool) (l : List Nat), l.dropWhile p = l.drop (l.takeWhile p).length := by
    intro p l
    induction l with
    | nil => rfl
    | cons a r ih => rw [List.dropWhile_cons, List.takeWhile_cons]; split <;> simp [ih]
  rw [key, List.reverse_drop, List.reverse_reverse, List.length_reverse]
theorem digs_last (m : Nat) (h : 10 ≤ m) : (Nat.toDigits 10 m).map Char.toNat = (Nat.toDigits 10 (m / 10)).map Char.toNat ++ [48 + m % 10] := by
  have hm : m % 10 < 10 := Nat.mod_lt m (by decide)
  have t : Nat.toDigits 10 (m / 10) ++ Nat.toDigits 10 (m % 10) = Nat.toDigits 10 (10 * (m / 10) + m % 10) := Nat.toDigits_append_toDigits (by decide) (by omega) hm
  rw [Nat.div_add_mod] at t
  rw [← t, List.map_append, Nat.toDigits_of_lt_base hm]
  have : ∀ d : Nat, d < 10 → (Nat.digitChar d).toNat = 48 + d := by decide
  show _ ++ [(Nat.digitChar (m % 10)).toNat] = _
  rw [this _ hm]
theorem rs_digs : ∀ (m : Nat) (e : Int), 0 < m → rs ((Nat.toDigits 10 m).map Char.toNat) = (Nat.toDigits 10 (strip (m : Int) e).1.toNat).map Char.toNat ∧ 0 < (strip (m : Int) e).1 := by
  intro m
  induction m using Nat.strongRecOn with
  | _ m ih =>
    intro e h0
    by_cases hz : m % 10 = 0
    · have hs : strip (m : Int) e = strip ((m / 10 : Nat) : Int) (e + 1) := by
        rw [strip_step e (by omega) (by omega), Int.natCast_ediv]; rfl
      rw [digs_last m (by omega), hz, rs_0, hs]
      exact ih (m / 10) (by omega) (e + 1) (by omega)
    · have hs : strip (m : Int) e = ((m : Int), e) := strip_done e (by omega) (by omega)
      rw [hs]
      refine ⟨?_, by show (0 : Int) < m; omega⟩
      show _ = (Nat.toDigits 10 ((m : Int).toNat)).map Char.toNat
      rw [Int.toNat_natCast]
      by_cases h : m < 10
      · rw [Nat.toDigits_of_lt_base h]
        have : ∀ d : Nat, d < 10 → d % 10 ≠ 0 → (Nat.digitChar d).toNat ≠ 48 := by decide
        exact rs_n [] (this m h hz)
      · rw [digs_last m (by omega)]
        exact rs_n _ (by omega)
theorem str_ext {x y : PySem.Str} (h : x.cps.toList = y.cps.toList) : x = y := by
  obtain ⟨⟨a⟩⟩ := x
  obtain ⟨⟨b⟩⟩ := y
  simp only at h
  subst h; rfl
theorem rstrip_text {n : Int} (h : 0 < n) : PySem.Txt.rstripChars (PySem.Str.ofString (toString n)) (PySem.Str.ofString "0") = PySem.Str.ofString (toString (strip n 0).1) := by
  obtain ⟨m, rfl⟩ := Int.eq_ofNat_of_zero_le (Int.le_of_lt h)
  obtain ⟨h1, h2⟩ := rs_digs m 0 (by omega)
  refine str_ext ?_
  rw [rstrip_list, PySem.W.KIN.signs_num, h1]
  obtain ⟨k, hk⟩ := Int.eq_ofNat_of_zero_le (Int.le_of_lt h2)
  have hk' : (strip ((m : Nat) : Int) 0).1 = (k : Int) := hk
  rw [hk', PySem.W.KIN.signs_num]; rfl
theorem strip_pos {n : Int} (e : Int) (h : 0 < n) : 0 < (strip n e).1 := by
  obtain ⟨m, rfl⟩ := Int.eq_ofNat_of_zero_le (Int.le_of_lt h)
  exact (rs_digs m e (by omega)).2
theorem strip_le {n : Int} (e : Int) (h : 0 < n) : (strip n e).1 ≤ n := by
  suffices H : ∀ k : Nat, ∀ n e : Int, n.toNat ≤ k → 0 < n → (strip n e).1 ≤ n from H _ n e (Nat.le_refl _) h
  intro k
  induction k with
  | zero => intro n e h1 h2; omega
  | succ k ih =>
    intro n e h1 h2
    by_cases h : n % 10 = 0
    · rw [strip_step e (by omega) h]
      have := ih (n / 10) (e + 1) (by omega) (by omega)
      omega
    · rw [strip_done e (by omega) h]; exact Int.le_refl _
theorem rstrip_zero : PySem.Txt.rstripChars (PySem.Str.ofString (toString (0 : Int))) (PySem.Str.ofString "0") = PySem.Str.ofString "" := by
  refine str_ext ?_
  rw [rstrip_list]
  decide +kernel
theorem text_ne {n : Int} (h : 0 < n) : (PySem.Str.ofString (toString n) == PySem.Str.ofString "") = false := by
  refine beq_eq_false_iff_ne.mpr fun e => ?_
  have h1 := len_text h
  have h2 := cd_pos (n := n) (by omega)
  rw [e] at h1
  have : (PySem.Str.ofString "").length = 0 := by decide +kernel
  rw [this] at h1
  omega
end Mine


theorem Mine.off_textr : True := by
  w_top off
  trivial

namespace Mine
section
variable {prog : Program} {w : World} {A : Around} {E : Value → Shared → Prop} {s : Shared} {h₀ : Heap} {L : Addr} {m : Str → Option Value} {p : Program} {loose : List Str} {mean : ExcName → Option Value} {mg mb : Str → Option Value} {Q : Value → Shared → Prop} {n : Int} {t u : Tok}
theorem cb_natAbs {a : Int} {i : Nat} (h : CB a i) : CB ((a.natAbs : Nat) : Int) i := CB.of_lt (by rw [Int.natAbs_natCast]; exact h.lt)
theorem str_cb (hh : A.handled = none) (F : Fr h₀ L s.heap m) (T : Top p loose mean mg mb h₀) (hc : CB n 4300) (h : Q (.str (Str.ofString (toString n)) s.toks) { s with toks := s.toks + 1 }) : wpAny (model prog w) A (call (.type "str") [.int n t]) Q E s :=
  str_of_int_or hh (let ⟨mc, h1, h2⟩ := T.nodigits; ⟨mc, h1.keeps F.keep, h2⟩) (fun _ => h) fun h2 => absurd hc.lt (Nat.not_lt.mpr h2)
theorem len_numt (h0 : 0 < n) (hc : CB n 4300) (h : Q (.int (cd n) (s.toks + 1)) { s with toks := s.toks + 1 + 1 }) : wpAny (model prog w) A (call (.builtin "len") [.str (Str.ofString (toString n)) t]) Q E s := by
  have e := len_text h0
  refine len_str ?_ ?_
  · rw [e]
    have : cd n ≤ 4300 := hc
    omega
  · rw [e]; exact h
theorem rstrip_num (h0 : 0 < n) (hc : CB n 4300) (h : ∀ t' k, Q (.str (Str.ofString (toString (strip n 0).1)) t') { s with toks := k }) : wpAny (model prog w) A (call (.builtin "str.rstrip") [.str (Str.ofString (toString n)) t, .str (Str.ofString "0") u]) Q E s := by
  refine SC.rstripChars (fun t' k => ?_) ?_
  · rw [rstrip_text h0]; exact h t' k
  · have e := len_text h0
    have : cd n ≤ 4300 := hc
    rw [sizeLine_eq]
    omega
theorem int_num (h0 : 0 ≤ n) (h1 : n < 10 ^ 10) (h : Q (.int n s.toks) { s with toks := s.toks + 1 }) : wpAny (model prog w) A (call (.type "int") [.str (Str.ofString (toString n)) t]) Q E s := KIN.call_num h0 h1 h
theorem abs_nat (h : ∀ u tk, Q (.int ((n.natAbs : Nat) : Int) u) { s with toks := tk }) : wpAny (model prog w) A (call (.builtin "abs") [.int n t]) Q E s :=
  call_abs_int fun u tk => by
    have e : (if n < 0 then -n else n) = ((n.natAbs : Nat) : Int) := by split <;> omega
    rw [e]; exact h u tk
end
end Mine

theorem Mine.lines_textr : True := by
  k_with "tb_start" => repeat' (first | (with_reducible assumption) | with_reducible apply Mine.CB.pow10 | with_reducible apply Mine.CB.mul | with_reducible apply Mine.CB.add | with_reducible apply Mine.CB.sub | with_reducible apply Mine.CB.neg | with_reducible apply Mine.cb_natAbs | with_reducible apply Mine.CB.max | with_reducible apply Mine.CB.ite | with_reducible apply Mine.CB.pow | with_reducible apply Mine.CB.fdiv | with_reducible apply Mine.CB.fmod | with_reducible apply Mine.cb_quot | (refine Mine.CB.of_lt (k := 20) ?_; omega) | fail "tb_start")
  k_with "call type:str" => (k_here; (with_reducible show wpAny _ _ (call (Value.type "str") [Value.int _ _]) _ _ _); k_dflt (refine' Mine.str_cb ?k0qq ?k1qq ?k2qq ?k3qq ?_; (case k0qq => with_unfolding_all rfl); (case k1qq => k_asm); (case k2qq => k_asm); (case k3qq => (refine' Mine.CB.le ?cbaqq ?cbbqq; (case cbaqq => k_extra "tb_start"); (case cbbqq => omega)))))
  k_with "call builtin:len" => (k_here; (with_reducible show wpAny _ _ (call (Value.builtin _) [Value.str (PySem.Str.ofString (toString _)) _]) _ _ _); k_dflt (refine' Mine.len_numt ?k0qq ?k3qq ?_; (case k0qq => first | assumption | omega | exact Mine.strip_pos _ (by assumption)); (case k3qq => (refine' Mine.CB.le ?cbaqq ?cbbqq; (case cbaqq => k_extra "tb_start"); (case cbbqq => omega)))))
  k_with "call builtin:str.rstrip" => (k_here; k_dflt (refine' Mine.rstrip_num ?k0qq ?k3qq ?_; (case k0qq => first | assumption | omega); (case k3qq => (refine' Mine.CB.le ?cbaqq ?cbbqq; (case cbaqq => k_extra "tb_start"); (case cbbqq => omega)))); intro tzz' kzz')
  k_with "call type:int" => (k_here; (with_reducible show wpAny _ _ (call (Value.type "int") [Value.str _ _]) _ _ _); k_dflt (refine' Mine.int_num ?k0qq ?k3qq ?_; (case k0qq => first | assumption | omega | exact Int.le_of_lt (Mine.strip_pos _ (by assumption))); (case k3qq => first | assumption | omega)))
  k_with "call builtin:abs" => (k_here; (with_reducible show wpAny _ _ (call (Value.builtin _) [Value.int _ _]) _ _ _); refine Mine.abs_nat ?_; intro uzz' tkzz')
  trivial

theorem Mine.off_lround : True := by
  w_top off
  trivial

namespace Mine
theorem toNat_max (x : Int) : (max 0 x).toNat = x.toNat := by omega
theorem cast_mul_pow (a k : Nat) : ((a : Nat) : Int) * 10 ^ k = ((a * 10 ^ k : Nat) : Int) := by rw [Int.natCast_mul, Int.natCast_pow]; rfl
theorem row_parts {a b : Int} (hb : 0 < b) (x y : Int) :
    (((a.natAbs : Nat) : Int) * 10 ^ (max 0 x).toNat).fdiv (b * 10 ^ (max 0 y).toNat) = ((a.natAbs * 10 ^ x.toNat / (b.natAbs * 10 ^ y.toNat) : Nat) : Int) ∧
    (((a.natAbs : Nat) : Int) * 10 ^ (max 0 x).toNat).fmod (b * 10 ^ (max 0 y).toNat) = ((a.natAbs * 10 ^ x.toNat % (b.natAbs * 10 ^ y.toNat) : Nat) : Int) := by
  have e : b = ((b.natAbs : Nat) : Int) := by omega
  have e2 : b * 10 ^ (max 0 y).toNat = ((b.natAbs * 10 ^ y.toNat : Nat) : Int) := by
    rw [toNat_max, ← cast_mul_pow, ← e]
  rw [e2, toNat_max, cast_mul_pow, Int.fdiv_eq_ediv_of_nonneg _ (by omega), Int.fmod_eq_emod_of_nonneg _ (by omega)]
  exact ⟨(Int.natCast_ediv _ _).symm, (Int.natCast_emod _ _).symm⟩
theorem cmp_nat {a b : Int} (hb : 0 < b) (x y : Int) : (((a.natAbs : Nat) : Int) * 10 ^ (max 0 x).toNat < b * 10 ^ (max 0 y).toNat) ↔ a.natAbs * 10 ^ x.toNat < b.natAbs * 10 ^ y.toNat := by
  have e : b = ((b.natAbs : Nat) : Int) := by omega
  have e2 : b * 10 ^ (max 0 y).toNat = ((b.natAbs * 10 ^ y.toNat : Nat) : Int) := by
    rw [toNat_max, ← cast_mul_pow, ← e]
  rw [e2, toNat_max, cast_mul_pow]
  omega
theorem lead_of {a b : Int} (ha : a ≠ 0) (hb : 0 < b) :
    isLead a.natAbs b.natAbs (if ((a.natAbs : Nat) : Int) * 10 ^ (max 0 (-(cd ((a.natAbs : Nat) : Int) - cd b))).toNat < b * 10 ^ (max 0 (cd ((a.natAbs : Nat) : Int) - cd b)).toNat then cd ((a.natAbs : Nat) : Int) - cd b - 1 else cd ((a.natAbs : Nat) : Int) - cd b) := by
  have hl : cd ((a.natAbs : Nat) : Int) - cd b = (ndn a.natAbs : Int) - ndn b.natAbs := by unfold cd; rw [Int.natAbs_natCast]
  split
  · rename_i h
    exact lead_lo (by omega) (by omega) hl ((cmp_nat hb _ _).mp h)
  · rename_i h
    exact lead_hi (by omega) (by omega) hl fun h' => h ((cmp_nat hb _ _).mpr h')
theorem row_fit {a b : Int} {d : Int} {l : Int} (hb : 0 < b) (hd : 1 ≤ d) (hd9 : d ≤ 9) (h : isLead a.natAbs b.natAbs l) :
    0 < (((a.natAbs : Nat) : Int) * 10 ^ (max 0 (d - 1 - l)).toNat).fdiv (b * 10 ^ (max 0 (-(d - 1 - l))).toNat) ∧
    (((a.natAbs : Nat) : Int) * 10 ^ (max 0 (d - 1 - l)).toNat).fdiv (b * 10 ^ (max 0 (-(d - 1 - l))).toNat) < 10 ^ 9 := by
  rw [(row_parts hb _ _).1]
  obtain ⟨k, rfl⟩ := Int.eq_ofNat_of_zero_le (show (0 : Int) ≤ d by omega)
  obtain ⟨h1, h2⟩ := row_bounds (d := k) (by omega) h
  have hB : 0 < b.natAbs * 10 ^ (-((k : Int) - 1 - l)).toNat := Nat.mul_pos (by omega) (p10_pos _)
  have q1 : 10 ^ (k - 1) ≤ a.natAbs * 10 ^ ((k : Int) - 1 - l).toNat / (b.natAbs * 10 ^ (-((k : Int) - 1 - l)).toNat) := (Nat.le_div_iff_mul_le hB).mpr (by rw [Nat.mul_comm]; exact h1)
  have q2 : a.natAbs * 10 ^ ((k : Int) - 1 - l).toNat / (b.natAbs * 10 ^ (-((k : Int) - 1 - l)).toNat) < 10 ^ k := Nat.div_lt_of_lt_mul h2
  have q3 : 10 ^ k ≤ 10 ^ 9 := pow_mono (by omega)
  have q4 := p10_pos (k - 1)
  have q5 : ((10 : Int) ^ 9) = ((10 ^ 9 : Nat) : Int) := by decide
  rw [q5]
  omega
abbrev leadI (a b : Int) : Int := cd ((a.natAbs : Nat) : Int) - cd b
theorem row_lo {a b d : Int} (ha : a ≠ 0) (hb : 0 < b) (hd : 1 ≤ d) (hd9 : d ≤ 9) :
    ((a.natAbs : Nat) : Int) * 10 ^ (max 0 (-(cd ((a.natAbs : Nat) : Int) - cd b))).toNat < b * 10 ^ (max 0 (cd ((a.natAbs : Nat) : Int) - cd b)).toNat →
    0 < (((a.natAbs : Nat) : Int) * 10 ^ (max 0 (d - 1 - (cd ((a.natAbs : Nat) : Int) - cd b - 1))).toNat).fdiv (b * 10 ^ (max 0 (-(d - 1 - (cd ((a.natAbs : Nat) : Int) - cd b - 1)))).toNat) ∧
    (((a.natAbs : Nat) : Int) * 10 ^ (max 0 (d - 1 - (cd ((a.natAbs : Nat) : Int) - cd b - 1))).toNat).fdiv (b * 10 ^ (max 0 (-(d - 1 - (cd ((a.natAbs : Nat) : Int) - cd b - 1)))).toNat) < 10 ^ 9 := by
  intro h
  have hl := lead_of ha hb
  rw [if_pos h] at hl
  exact row_fit hb hd hd9 hl
theorem row_hi {a b d : Int} (ha : a ≠ 0) (hb : 0 < b) (hd : 1 ≤ d) (hd9 : d ≤ 9) :
    ¬ ((a.natAbs : Nat) : Int) * 10 ^ (max 0 (-(cd ((a.natAbs : Nat) : Int) - cd b))).toNat < b * 10 ^ (max 0 (cd ((a.natAbs : Nat) : Int) - cd b)).toNat →
    0 < (((a.natAbs : Nat) : Int) * 10 ^ (max 0 (d - 1 - (cd ((a.natAbs : Nat) : Int) - cd b))).toNat).fdiv (b * 10 ^ (max 0 (-(d - 1 - (cd ((a.natAbs : Nat) : Int) - cd b)))).toNat) ∧
    (((a.natAbs : Nat) : Int) * 10 ^ (max 0 (d - 1 - (cd ((a.natAbs : Nat) : Int) - cd b))).toNat).fdiv (b * 10 ^ (max 0 (-(d - 1 - (cd ((a.natAbs : Nat) : Int) - cd b)))).toNat) < 10 ^ 9 := by
  intro h
  have hl := lead_of ha hb
  rw [if_neg h] at hl
  exact row_fit hb hd hd9 hl
theorem mul_pow_ne {b : Int} (k : Nat) (hb : 0 < b) : b * 10 ^ k ≠ 0 := Int.ne_of_gt (Int.mul_pos hb (Int.pow_pos (by decide)))
theorem row_use0 {P : Prop} {r : Int} (h : P → 0 < r ∧ r < 10 ^ 9) (hp : P) : 0 < r := (h hp).1
theorem row_use1 {P : Prop} {r : Int} (h : P → 0 < r ∧ r < 10 ^ 9) (hp : P) : 0 < r + 1 := by have := (h hp).1; omega
theorem row_int0 {P : Prop} {r : Int} (h : P → 0 < r ∧ r < 10 ^ 9) (hp : P) : (strip r 0).1 < 10 ^ 10 := by
  have h1 := h hp
  have := strip_le 0 h1.1
  have : ((10 : Int) ^ 9) < 10 ^ 10 := by decide
  omega
theorem row_int1 {P : Prop} {r : Int} (h : P → 0 < r ∧ r < 10 ^ 9) (hp : P) : (strip (r + 1) 0).1 < 10 ^ 10 := by
  have h1 := h hp
  have := strip_le (n := r + 1) 0 (by omega)
  have : ((10 : Int) ^ 9) < 10 ^ 10 := by decide
  omega
theorem row_nn0 {P : Prop} {r : Int} (h : P → 0 < r ∧ r < 10 ^ 9) (hp : P) : 0 ≤ (strip r 0).1 := Int.le_of_lt (strip_pos 0 (h hp).1)
theorem row_nn1 {P : Prop} {r : Int} (h : P → 0 < r ∧ r < 10 ^ 9) (hp : P) : 0 ≤ (strip (r + 1) 0).1 := Int.le_of_lt (strip_pos 0 (by have := (h hp).1; omega))
theorem row_np0 {P : Prop} {r : Int} (h : P → 0 < r ∧ r < 10 ^ 9) (hp : P) : 0 < (strip r 0).1 := strip_pos 0 (h hp).1
theorem row_np1 {P : Prop} {r : Int} (h : P → 0 < r ∧ r < 10 ^ 9) (hp : P) : 0 < (strip (r + 1) 0).1 := strip_pos 0 (by have := (h hp).1; omega)
theorem cb_strip {r : Int} {i : Nat} (e : Int) (h : CB r i) : CB (strip r e).1 i := by
  have := cd_strip (m := r) (e := e)
  unfold CB at *; omega
end Mine

theorem Mine.lines_lround : True := by
  k_with "tb_start" => repeat' (first | (with_reducible assumption) | with_reducible apply Mine.CB.pow10 | with_reducible apply Mine.CB.mul | with_reducible apply Mine.CB.add | with_reducible apply Mine.CB.sub | with_reducible apply Mine.CB.neg | with_reducible apply Mine.cb_natAbs | with_reducible apply Mine.cb_strip | with_reducible apply Mine.CB.max | with_reducible apply Mine.CB.ite | with_reducible apply Mine.CB.pow | with_reducible apply Mine.CB.fdiv | with_reducible apply Mine.CB.fmod | with_reducible apply Mine.cb_quot | (refine Mine.CB.of_lt (k := 20) ?_; omega) | fail "tb_start")
  k_with "ktr_rel" => first | (with_reducible assumption) | omega | exact Mine.row_use0 (by with_reducible assumption) (by with_reducible assumption) | exact Mine.row_use1 (by with_reducible assumption) (by with_reducible assumption) | exact Mine.row_int0 (by with_reducible assumption) (by with_reducible assumption) | exact Mine.row_int1 (by with_reducible assumption) (by with_reducible assumption) | exact Mine.row_nn0 (by with_reducible assumption) (by with_reducible assumption) | exact Mine.row_nn1 (by with_reducible assumption) (by with_reducible assumption) | exact Mine.row_np0 (by with_reducible assumption) (by with_reducible assumption) | exact Mine.row_np1 (by with_reducible assumption) (by with_reducible assumption) | exact Mine.mul_pow_ne _ (by with_reducible assumption)
  k_with "binaryOp FloorDiv int int" => (k_here; (with_reducible refine' floordiv_int ?kbeqq ?_ (Or.inl (Mine.noPy_of_cb ?kbpqq ?kbkqq))); (case kbeqq => k_extra "ktr_rel"); (case kbpqq => k_extra "tb_start"); (case kbkqq => omega))
  k_with "binaryOp Mod int int" => (k_here; (with_reducible refine' mod_int' ?kbeqq ?_); (case kbeqq => k_extra "ktr_rel"))
  k_with "call builtin:len" => (k_here; (with_reducible show wpAny _ _ (call (Value.builtin _) [Value.str (PySem.Str.ofString (toString _)) _]) _ _ _); k_dflt (refine' Mine.len_numt ?k0qq ?k3qq ?_; (case k0qq => k_extra "ktr_rel"); (case k3qq => (refine' Mine.CB.le ?cbaqq ?cbbqq; (case cbaqq => k_extra "tb_start"); (case cbbqq => omega)))))
  k_with "call builtin:str.rstrip" => (k_here; k_dflt (refine' Mine.rstrip_num ?k0qq ?k3qq ?_; (case k0qq => k_extra "ktr_rel"); (case k3qq => (refine' Mine.CB.le ?cbaqq ?cbbqq; (case cbaqq => k_extra "tb_start"); (case cbbqq => omega)))); intro tzz' kzz')
  k_with "call type:int" => (k_here; (with_reducible show wpAny _ _ (call (Value.type "int") [Value.str _ _]) _ _ _); k_dflt (refine' Mine.int_num ?k0qq ?k3qq ?_; (case k0qq => k_extra "ktr_rel"); (case k3qq => k_extra "ktr_rel")))
  k_with "inplaceOp Mult int int" => (k_here; (with_reducible refine' imul_int ?_ (Mine.mulOk_of_cb ?haqq ?hbqq ?hkqq)); (case haqq => k_extra "tb_start"); (case hbqq => k_extra "tb_start"); (case hkqq => omega))
  trivial

theorem Mine.off_lround2 : True := by
  w_top off
  trivial

namespace Mine
section
variable {prog : Program} {w : World} {p : Program} {loose : List Str} {mean : ExcName → Option Value} {mg mb : Str → Option Value}
/-- a new pair, or None -/
abbrev RetON (news : Led) (o : Option (Int × Int)) (h₀ : Heap) (L : Addr) (m : Str → Option Value) (s : Shared) (Q : Value → Shared → Prop) : Prop :=
  (o = none → ∀ (h' : Heap) (tk' : Nat), Fr h₀ L h' m → News h₀ L h' news → Q .none { s with heap := h', toks := tk' }) ∧ ∀ y, o = some y → RetN news y h₀ L m s Q

theorem leadJ {a b l : Int} (h : l = if ((a.natAbs : Nat) : Int) * 10 ^ (max 0 (-(cd ((a.natAbs : Nat) : Int) - cd b))).toNat < b * 10 ^ (max 0 (cd ((a.natAbs : Nat) : Int) - cd b)).toNat then cd ((a.natAbs : Nat) : Int) - cd b - 1 else cd ((a.natAbs : Nat) : Int) - cd b) :
    l ≤ cd ((a.natAbs : Nat) : Int) - cd b ∧ cd ((a.natAbs : Nat) : Int) - cd b ≤ l + 1 := by
  split at h <;> omega
theorem rne_bounds {A B : Nat} : A / B ≤ rne A B ∧ rne A B ≤ A / B + 1 := by
  unfold rne; split <;> omega
theorem rowJ {a b d l : Int} (hb : 0 < b) (hd : 1 ≤ d) (hd9 : d ≤ 9) (h : isLead a.natAbs b.natAbs l) :
    0 < ((rne (a.natAbs * 10 ^ (d - 1 - l).toNat) (b.natAbs * 10 ^ (-(d - 1 - l)).toNat) : Nat) : Int) ∧ ((rne (a.natAbs * 10 ^ (d - 1 - l).toNat) (b.natAbs * 10 ^ (-(d - 1 - l)).toNat) : Nat) : Int) ≤ 10 ^ 9 := by
  have h1 := row_fit hb hd hd9 h
  rw [(row_parts hb _ _).1] at h1
  have h2 := rne_bounds (A := a.natAbs * 10 ^ (d - 1 - l).toNat) (B := b.natAbs * 10 ^ (-(d - 1 - l)).toNat)
  omega
theorem rowup {a b x y : Int} (hb : 0 < b) (h : b * 10 ^ (max 0 y).toNat < 2 * (((a.natAbs : Nat) : Int) * 10 ^ (max 0 x).toNat).fmod (b * 10 ^ (max 0 y).toNat) ∨ (2 * (((a.natAbs : Nat) : Int) * 10 ^ (max 0 x).toNat).fmod (b * 10 ^ (max 0 y).toNat) = b * 10 ^ (max 0 y).toNat ∧ ((((a.natAbs : Nat) : Int) * 10 ^ (max 0 x).toNat).fdiv (b * 10 ^ (max 0 y).toNat)).fmod 2 = 1)) :
    (((a.natAbs : Nat) : Int) * 10 ^ (max 0 x).toNat).fdiv (b * 10 ^ (max 0 y).toNat) + 1 = ((rne (a.natAbs * 10 ^ x.toNat) (b.natAbs * 10 ^ y.toNat) : Nat) : Int) := by
  obtain ⟨h1, h2⟩ := row_parts (a := a) hb x y
  have e : b = ((b.natAbs : Nat) : Int) := by omega
  have e2 : b * 10 ^ (max 0 y).toNat = ((b.natAbs * 10 ^ y.toNat : Nat) : Int) := by
    rw [toNat_max, ← cast_mul_pow, ← e]
  rw [h1, h2, e2, Int.fmod_eq_emod_of_nonneg _ (by decide)] at h
  rw [h1]
  unfold rne
  rw [if_pos (by omega)]
  omega
theorem rowdown {a b x y : Int} (hb : 0 < b) (h : ¬ (b * 10 ^ (max 0 y).toNat < 2 * (((a.natAbs : Nat) : Int) * 10 ^ (max 0 x).toNat).fmod (b * 10 ^ (max 0 y).toNat) ∨ (2 * (((a.natAbs : Nat) : Int) * 10 ^ (max 0 x).toNat).fmod (b * 10 ^ (max 0 y).toNat) = b * 10 ^ (max 0 y).toNat ∧ ((((a.natAbs : Nat) : Int) * 10 ^ (max 0 x).toNat).fdiv (b * 10 ^ (max 0 y).toNat)).fmod 2 = 1))) :
    (((a.natAbs : Nat) : Int) * 10 ^ (max 0 x).toNat).fdiv (b * 10 ^ (max 0 y).toNat) = ((rne (a.natAbs * 10 ^ x.toNat) (b.natAbs * 10 ^ y.toNat) : Nat) : Int) := by
  obtain ⟨h1, h2⟩ := row_parts (a := a) hb x y
  have e : b = ((b.natAbs : Nat) : Int) := by omega
  have e2 : b * 10 ^ (max 0 y).toNat = ((b.natAbs * 10 ^ y.toNat : Nat) : Int) := by
    rw [toNat_max, ← cast_mul_pow, ← e]
  rw [h1, h2, e2, Int.fmod_eq_emod_of_nonneg _ (by decide)] at h
  rw [h1]
  unfold rne
  rw [if_neg (by omega), Nat.add_zero]

theorem lround_eq {a b d tp ten l r : Int} (ha : a ≠ 0) (hl : l = if ((a.natAbs : Nat) : Int) * 10 ^ (max 0 (-(cd ((a.natAbs : Nat) : Int) - cd b))).toNat < b * 10 ^ (max 0 (cd ((a.natAbs : Nat) : Int) - cd b)).toNat then cd ((a.natAbs : Nat) : Int) - cd b - 1 else cd ((a.natAbs : Nat) : Int) - cd b)
    (hr : r = ((rne (a.natAbs * 10 ^ (d - 1 - l).toNat) (b.natAbs * 10 ^ (-(d - 1 - l)).toNat) : Nat) : Int)) :
    lround a b d tp ten = if tp < l + (cd r - d + ten) then none else if l + (cd r - d + ten) < -tp then some (0, 0) else some ((if a > 0 then 1 else -1) * (strip r 0).1, l + (cd r - d + ten) - cd (strip r 0).1 + 1) := by
  unfold lround
  rw [if_neg ha]
  dsimp only
  rw [← hl, toNat_max, toNat_max, ← hr]

set_option maxHeartbeats 8000000 in
theorem ct_lroundG (vs : List Value) (news : Led) (a b d tp ten : Int) (t1 t2 t3 t4 t5 : Tok)
    (hbind : ∀ (s : Shared) (oc : Value) (od : Option Addr) (osl : Array (Option Value)) (fd : FuncData), (Mine.hd.heap_1 w.params).lookup 181 = some ⟨oc, od, .func fd, osl⟩ → (Mine.hd.heap_1 w.params).In s.heap →
      BindsTo s fd ⟨vs, []⟩ [(Str.ofString "a", .int a t1), (Str.ofString "b", .int b t2), (Str.ofString "digits", .int d t3), (Str.ofString "top", .int tp t4), (Str.ofString "ten", .int ten t5)])
    (ha : CB a 1250) (hb : CB b 1250) (hb0 : 0 < b) (hd1 : 1 ≤ d) (hd9 : d ≤ 9) :
    Ctr prog w p loose mean mg mb 181 4 news vs (RetON news (lround a b d tp ten)) := by
  unfold Ctr
  intro dp un gd cn cs aa ccd cl outer A₀ base h₀ L m s Q E B F X₀ N T hk hd hu hret
  have hc1 : cd ((a.natAbs : Nat) : Int) ≤ 1250 := cb_natAbs ha
  have hc2 : cd b ≤ 1250 := hb
  have hc3 := cd_nonneg ((a.natAbs : Nat) : Int)
  have hc4 := cd_nonneg b
  by_cases ha0 : a = 0
  · subst ha0
    refine wpAny_call ?_
    k_dflt (refine' code_def ?k1 ?k2 ?k3 ?k4 ?k5 ?kA ?kF ?kK ?k6 ?k7 ?k8 ?k9 ?kB ?_ ?c2 ?c3 ?c4 ?c5; (case kA => exact rfl); (case kF => exact rfl); (case kK => assumption); (case k1 => k_asm); (case k2 => k_asm); (case k3 => k_asm); (case k4 => k_asm); (case k5 => k_asm); (case k6 => k_is); (case k7 => k_is); (case k8 => ktr_room); (case k9 => exact hbind _ _ _ _ _ (by k_is) (by k_in)); (case c5 => decide); (case kB => exact locs rfl); (case c2 => exact rfl); (case c3 => exact rfl); (case c4 => exact rfl); k_whole; intro g' L' h' FG' F' N' B' X' T'; (try dsimp only); (try k_lift B'); (try k_fold))
    k_steps
    exact retN_of (hret.2 _ (lround_zero b d tp ten)) (by k_asm) (by k_asm) (by k_mem) (by kcj_all) (allLt_of (by assumption)) rfl
  · have hpos : 0 < ((a.natAbs : Nat) : Int) := by omega
    have hl1 := lead_of ha0 hb0
    obtain ⟨l, hl⟩ : ∃ l, l = if ((a.natAbs : Nat) : Int) * 10 ^ (max 0 (-(cd ((a.natAbs : Nat) : Int) - cd b))).toNat < b * 10 ^ (max 0 (cd ((a.natAbs : Nat) : Int) - cd b)).toNat then cd ((a.natAbs : Nat) : Int) - cd b - 1 else cd ((a.natAbs : Nat) : Int) - cd b := ⟨_, rfl⟩
    obtain ⟨hl2, hl3⟩ := leadJ hl
    rw [← hl] at hl1
    obtain ⟨hr1, hr2⟩ := rowJ hb0 hd1 hd9 hl1
    obtain ⟨r, hr⟩ : ∃ r, r = ((rne (a.natAbs * 10 ^ (d - 1 - l).toNat) (b.natAbs * 10 ^ (-(d - 1 - l)).toNat) : Nat) : Int) := ⟨_, rfl⟩
    rw [← hr] at hr1 hr2
    have hs0 := strip_pos (n := r) 0 hr1
    have hs1 := strip_le 0 hr1
    have hrc : CB r 20 := CB.of_lt (by omega)
    have hJ0 : JW (Str.ofString "sign") (if a > 0 then 1 else -1) := JW.mk
    have hJ1 : JW (Str.ofString "lead") l := JW.mk
    have hJ2 : JW (Str.ofString "row") r := JW.mk
    refine wpAny_call ?_
    k_dflt (refine' code_def ?k1 ?k2 ?k3 ?k4 ?k5 ?kA ?kF ?kK ?k6 ?k7 ?k8 ?k9 ?kB ?_ ?c2 ?c3 ?c4 ?c5; (case kA => exact rfl); (case kF => exact rfl); (case kK => assumption); (case k1 => k_asm); (case k2 => k_asm); (case k3 => k_asm); (case k4 => k_asm); (case k5 => k_asm); (case k6 => k_is); (case k7 => k_is); (case k8 => ktr_room); (case k9 => exact hbind _ _ _ _ _ (by k_is) (by k_in)); (case c5 => decide); (case kB => exact locs rfl); (case c2 => exact rfl); (case c3 => exact rfl); (case c4 => exact rfl); k_whole; intro g' L' h' FG' F' N' B' X' T'; (try dsimp only); (try k_lift B'); (try k_fold))
    have e9 := lround_eq (tp := tp) (ten := ten) ha0 hl hr
    k_steps
    · exact absurd (by assumption) ha0
    · exact hret.1 (e9.trans (if_pos (by assumption))) _ _ (by k_asm) (by k_asm)
    · exact retN_of (hret.2 _ (e9.trans ((if_neg (by assumption)).trans (if_pos (by assumption))))) (by k_asm) (by k_asm) (by k_mem) (by kcj_all) (allLt_of (by assumption)) rfl
    · exact retN_of (hret.2 _ (e9.trans ((if_neg (by assumption)).trans (if_neg (by assumption))))) (by k_asm) (by k_asm) (by k_mem) (by kcj_all) (allLt_of (by assumption)) rfl
    · exact jpost (by k_asm) (by k_asm) (by kcj_all) rfl (fun y h => by simp only [if_neg h]) ((rowup hb0 (Or.inl (by assumption))).trans hr.symm)
    · exact jpost (by k_asm) (by k_asm) (by kcj_all) rfl (fun y h => by simp only [if_neg h]) ((rowup hb0 (Or.inr ⟨by assumption, by assumption⟩)).trans hr.symm)
    · exact jpost (by k_asm) (by k_asm) (by kcj_all) rfl (fun y h => by simp only [if_neg h]) ((rowdown hb0 (by intro h; rcases h with h | ⟨h, h'⟩ <;> contradiction)).trans hr.symm)
    · exact jpost (by k_asm) (by k_asm) (by kcj_all) rfl (fun y h => by simp only [if_neg h]) ((rowdown hb0 (by intro h; rcases h with h | ⟨h, h'⟩ <;> contradiction)).trans hr.symm)
    · exact jpost (by k_asm) (by k_asm) (by kcj_all) rfl (fun y h => by simp only [if_neg h]) (by rw [hl]; exact (if_pos (by assumption)).symm)
    · exact jpost (by k_asm) (by k_asm) (by kcj_all) rfl (fun y h => by simp only [if_neg h]) (by rw [hl]; exact (if_neg (by assumption)).symm)
    · exact jpost (by k_asm) (by k_asm) (by kcj_all) rfl (fun y h => by simp only [if_neg h]) (if_pos (by assumption)).symm
    · exact jpost (by k_asm) (by k_asm) (by kcj_all) rfl (fun y h => by simp only [if_neg h]) (if_neg (by assumption)).symm
end
end Mine


theorem Mine.off_lround3 : True := by
  w_top off
  trivial

namespace Mine
section
variable {prog : Program} {w : World} {p : Program} {loose : List Str} {mean : ExcName → Option Value} {mg mb : Str → Option Value}
theorem ct_lround5 (news : Led) (a b d tp ten : Int) (t1 t2 t3 t4 t5 : Tok) (ha : CB a 1250) (hb : CB b 1250) (hb0 : 0 < b) (hd1 : 1 ≤ d) (hd9 : d ≤ 9) :
    Ctr prog w p loose mean mg mb 181 4 news [.int a t1, .int b t2, .int d t3, .int tp t4, .int ten t5] (RetON news (lround a b d tp ten)) := by
  refine' ct_lroundG _ news a b d tp ten t1 t2 t3 t4 t5 ?hbi ha hb hb0 hd1 hd9
  case hbi =>
    intro s oc od osl fd hl X
    have e := (show (Mine.hd.heap_1 w.params).lookup 181 = some ⟨_, _, .func _, _⟩ by k_is).symm.trans hl
    injection e with e
    injection e with e1 e2 e3 e4
    injection e3 with e3
    subst e3
    exact binds_K X rfl (by k_is) rfl rfl rfl
theorem ct_lround4 (news : Led) (a b d tp : Int) (t1 t2 t3 t4 : Tok) (ha : CB a 1250) (hb : CB b 1250) (hb0 : 0 < b) (hd1 : 1 ≤ d) (hd9 : d ≤ 9) :
    Ctr prog w p loose mean mg mb 181 4 news [.int a t1, .int b t2, .int d t3, .int tp t4] (RetON news (lround a b d tp 0)) := by
  refine' ct_lroundG _ news a b d tp 0 t1 t2 t3 t4 430 ?hbi ha hb hb0 hd1 hd9
  case hbi =>
    intro s oc od osl fd hl X
    have e := (show (Mine.hd.heap_1 w.params).lookup 181 = some ⟨_, _, .func _, _⟩ by k_is).symm.trans hl
    injection e with e
    injection e with e1 e2 e3 e4
    injection e3 with e3
    subst e3
    exact binds_K X rfl (by k_is) rfl rfl rfl
end
end Mine

theorem Mine.lines_lround3 : True := by
  k_with "call ref" => (k_here; (with_reducible show wpAny _ _ (call (Value.ref 181) [_, _, _, _, _]) _ _ _); k_dflt (refine' Mine.use_ctr (Mine.ct_lround5 _ _ _ _ _ _ _ _ _ _ _ ?kh1qq ?kh2qq ?kh3qq ?kh4qq ?kh5qq) ?k1qq ?k2qq ?k3qq ?k4qq ?k5qq ?kKqq ?kdqq ?kuqq ?_; (case k1qq => k_asm); (case k2qq => k_asm); (case k3qq => k_asm); (case k4qq => k_asm); (case k5qq => k_asm); (case kKqq => first | exact rfl | assumption); (case kdqq => ktr_room); (case kuqq => ktr_units); (case kh1qq => (refine' Mine.CB.le ?cbaqq ?cbbqq; (case cbaqq => k_extra "tb_start"); (case cbbqq => omega))); (case kh2qq => (refine' Mine.CB.le ?cbcqq ?cbdqq; (case cbcqq => k_extra "tb_start"); (case cbdqq => omega))); (case kh3qq => k_extra "ktr_rel"); (case kh4qq => first | assumption | omega); (case kh5qq => first | assumption | omega)); (refine' ⟨fun ho9zz h9zz tk9zz F9zz N9zz => ?_, fun y9zz hy9zz D9zz t9zz u9zz c9zz h9zz tk9zz F9zz N9zz l9zz => ?_⟩); all_goals (try dsimp only); all_goals (try k_fold); all_goals (try k_sweep))
  k_with "call ref" => (k_here; (with_reducible show wpAny _ _ (call (Value.ref 181) [_, _, _, _]) _ _ _); k_dflt (refine' Mine.use_ctr (Mine.ct_lround4 _ _ _ _ _ _ _ _ _ ?kh1qq ?kh2qq ?kh3qq ?kh4qq ?kh5qq) ?k1qq ?k2qq ?k3qq ?k4qq ?k5qq ?kKqq ?kdqq ?kuqq ?_; (case k1qq => k_asm); (case k2qq => k_asm); (case k3qq => k_asm); (case k4qq => k_asm); (case k5qq => k_asm); (case kKqq => first | exact rfl | assumption); (case kdqq => ktr_room); (case kuqq => ktr_units); (case kh1qq => (refine' Mine.CB.le ?cbaqq ?cbbqq; (case cbaqq => k_extra "tb_start"); (case cbbqq => omega))); (case kh2qq => (refine' Mine.CB.le ?cbcqq ?cbdqq; (case cbcqq => k_extra "tb_start"); (case cbdqq => omega))); (case kh3qq => k_extra "ktr_rel"); (case kh4qq => first | assumption | omega); (case kh5qq => first | assumption | omega)); (refine' ⟨fun ho9zz h9zz tk9zz F9zz N9zz => ?_, fun y9zz hy9zz D9zz t9zz u9zz c9zz h9zz tk9zz F9zz N9zz l9zz => ?_⟩); all_goals (try dsimp only); all_goals (try k_fold); all_goals (try k_sweep))
  trivial

theorem Mine.off_heard : True := by
  w_top off
  trivial

namespace Mine
section
variable {prog : Program} {w : World} {A₀ : Around} {E : Value → Shared → Prop} {s' : Shared} {base g g₀ G : Heap} {outer : List Env} {L a e : Addr} {m : Str → Option Value} {name : Str} {scope : Scope} {ccd : Value}
  {b₀ : Stmt} {suite : List Stmt} {pos np : Pos} {rest : List ExceptHandler} {Q : Flow → Shared → Prop} {news : List (Addr × Obj)}
  {p : Program} {loose : List Str} {mean : ExcName → Option Value} {mg mb : Str → Option Value}
/-- the fault is caught by its name -/
theorem caught_rf (R : RaisedSN base G (envOf name scope L a ccd :: outer) e (.ref 44) news s'.heap) (F : Fr g L G m) (K : Below A₀ base outer g) (hsm : G.UpToSlots s'.heap) (XB : (Mine.hd.heap_1 w.params).In base) (TB : Top p loose mean mg mb base)
    (D : KtsDicts (outer.filterMap (·.frame)) g) (ex : nsIn (Mine.hd.heap_1 w.params) mainGlobals (Str.ofString "RunFault") = some (some (.ref 44)))
    (k : ∀ h' g', KtsTurn (outer.filterMap (·.frame)) g g' → Fr g' L h' m → News g' L h' news → Below A₀ base outer g' → (Mine.hd.heap_1 w.params).In g' → Top p loose mean mg mb g' → KtsDicts (outer.filterMap (·.frame)) g' →
      wpAny (model prog w) ((A₀.deeper (envOf name scope L a ccd)).mark (some (.ref e))) (execs (b₀ :: suite) (envOf name scope L a ccd)) Q E { s' with heap := h' })
    (hk : scope.kind = .function := by rfl) (hx : (envOf name scope L a ccd).kindOf (Str.ofString "RunFault") = some .globalImplicit := by rfl)
    (hE : PassesOwnAt (model prog w) ((A₀.deeper (envOf name scope L a ccd)).mark (some (.ref e))) (A₀.deeper (envOf name scope L a ccd)) (envOf name scope L a ccd) E := by passes_own) :
    wpAny (model prog w) (A₀.deeper (envOf name scope L a ccd)) (noteFrame (.ref e) (envOf name scope L a ccd))
      (fun _ s₂ => wpAny (model prog w) (A₀.deeper (envOf name scope L a ccd)) (setFlight (.ref e) none) (fun _ s₃ =>
        wpAny (model prog w) (A₀.deeper (envOf name scope L a ccd)) (handleBy (.ref e) (envOf name scope L a ccd) (.ExceptHandler (some (.Name (Str.ofString "RunFault") np)) none (b₀ :: suite) pos :: rest)) Q E s₃) E s₂) E s' := by
  obtain ⟨B, a0, hB, hBG, hl, hfl⟩ := R
  have hL : B.get? L = none := by
    obtain ⟨_, ⟨L', _, hf, hn', _⟩, _⟩ := hfl.2.2.1
    obtain rfl : L = L' := Option.some.inj hf
    exact hn'
  refine wpAny_looks_onW (Around.frames_deeper K.stack) rfl hfl fun h₄ hheld₄ hsm₄ => ?_
  refine wpAny_landsW hheld₄ fun h₅ hheld hsm₅' => ?_
  have hsm₅ := hsm₄.trans hsm₅'
  obtain ⟨g₅, T₅, F₅, K₅⟩ := kts_ground K F hBG hheld.1 (hsm.trans hsm₅)
  have X₅ : (Mine.hd.heap_1 w.params).In g₅ := XB.keeps K₅.stays
  have P₅ : TopRead p loose mg mb g₅ := topRead_of (TB.keeps K₅.stays)
  obtain ⟨ob, hob, hobc⟩ := hheld.there
  refine wpAny_handleBy_cons (codeAny_handlers_test (name_K F₅ X₅ P₅ ex ?_ hk hx (by decide))) (by intro q; cases q)
  refine wpAny_excMatches_sub_self (rf_at (X₅.keeps F₅.keep)) hob hobc (by decide) (codeAny_handlers_suite ?_)
  refine lands_againW hheld fun h₆ hfl₆ hsm₆ => ?_
  obtain ⟨g₆, T₆, F₆, K₆⟩ := kts_ground K F hBG hfl₆.1 ((hsm.trans hsm₅).trans hsm₆)
  have Nl : News g₆ L h₆ news := fun q hq => ⟨hfl₆.1 _ _ (hl q hq).1, (fun z => by have := (hl q hq).1; rw [z, hL] at this; cases this), T₆.none_ _ (kts_none F.keep (hl q hq).2.1)⟩
  have X₆ : (Mine.hd.heap_1 w.params).In g₆ := XB.keeps K₆.stays
  have P₆ : Top p loose mean mg mb g₆ := TB.keeps K₆.stays
  have D₆ : KtsDicts (outer.filterMap (·.frame)) g₆ := D.turn T₆
  exact wpAny_passesOwnAt hE (k h₆ g₆ T₆ F₆ Nl K₆ X₆ P₆ D₆)
end
section
variable {prog : Program} {w : World} {p : Program} {loose : List Str} {mean : ExcName → Option Value} {mg mb : Str → Option Value}
/-- the ground behind a call that may have caught -/
abbrev Anew (w : World) (p : Program) (loose : List Str) (mean : ExcName → Option Value) (mg mb : Str → Option Value) (A₀ : Around) (base : Heap) (outer : List Env) (h₀ : Heap) (L : Addr) (m : Str → Option Value) (h' : Heap) (news : Led) (X : Prop) : Prop :=
  ∀ h₀', KtsTurn (outer.filterMap (·.frame)) h₀ h₀' → Fr h₀' L h' m → News h₀' L h' news → Below A₀ base outer h₀' → (Mine.hd.heap_1 w.params).In h₀' → Top p loose mean mg mb h₀' → KtsDicts (outer.filterMap (·.frame)) h₀' → X
/-- a def that may catch -/
abbrev CtrS (prog : Program) (w : World) (p : Program) (loose : List Str) (mean : ExcName → Option Value) (mg mb : Str → Option Value) (f : Addr) (k : Nat) (news : Led) (vs : List Value)
    (Post : (Led → Heap → Prop → Prop) → Shared → (Value → Shared → Prop) → Prop) : Prop :=
  ∀ (dp un : Nat) (gd : Option (List Code)) (cn : Str) (cs : Scope) (a : Addr) (ccd : Value) (cl : List (Str × Addr)) (outer : List Env) (A₀ : Around) (base h₀ : Heap) (L : Addr) (m : Str → Option Value) (s : Shared) (Q E : Value → Shared → Prop),
    Below A₀ base outer h₀ → Fr h₀ L s.heap m → (Mine.hd.heap_1 w.params).In h₀ → News h₀ L s.heap news → Top p loose mean mg mb h₀ → (Mine.hd.heap_1 w.params).In base → Top p loose mean mg mb base → KtsDicts (outer.filterMap (·.frame)) h₀ → cs.kind = .function → dp + k < recursionLimit → un + 8 * k < cLine →
    Post (fun n h' X => Anew w p loose mean mg mb A₀ base outer h₀ L m h' n X) s Q →
    wpAny (model prog w) (ktrTop dp un gd cn cs L a ccd cl outer) (call (.ref f) vs) Q E s
/-- None, a new pair or the written one -/
abbrev RetH (news : Led) (o : Option (Int × Int)) (An : Led → Heap → Prop → Prop) (s : Shared) (Q : Value → Shared → Prop) : Prop :=
  (o = none → ∀ (h' : Heap) (tk' : Nat), An news h' (Q .none { s with heap := h', toks := tk' })) ∧
  ∀ y, o = some y → (y ≠ (0, 0) → ∀ (D : Addr) (t1 t2 : Tok) (c : Nat) (h' : Heap) (tk' : Nat), AllLt D news → An ((D, pairObj y.1 y.2 t1 t2 c) :: news) h' (Q (.ref D) { s with heap := h', toks := tk' })) ∧
    (y = (0, 0) → ∀ (h' : Heap) (tk' : Nat), An news h' (Q (.ref 47) { s with heap := h', toks := tk' }))
/-- a def that catches is entered from any frame -/
theorem enter_try {A A₀ : Around} {s : Shared} {base h₀ : Heap} {outer : List Env} {L : Addr} {m : Str → Option Value} {news : Led} {env : Env} {K : Frag}
    {R : Result → Shared → Prop} {name qual : Str} {params : Arguments} {body : List Stmt} {scope : Scope} {dV kV doc pm cdv ct oc : Value} {an od : Option Addr} {osl : Array (Option Value)} {f : Addr} {args : Args} {binds : List (Str × Value)}
    (B : Below A₀ base outer h₀) (F : Fr h₀ L s.heap m) (X₀ : K.In h₀) (N : News h₀ L s.heap news) (T : Top p loose mean mg mb h₀) (XB : K.In base) (TB : Top p loose mean mg mb base) (D : KtsDicts (outer.filterMap (·.frame)) h₀)
    (hA : A.frames = some (env :: outer)) (hf : env.frame = some L) (hke : env.scope.kind = .function)
    (ho : K.lookup f = some ⟨oc, od, .func (fnOf name qual params body scope dV kV doc pm an cdv ct), osl⟩) (hcd : codeIn K cdv qual = true) (hroom : A.depth < recursionLimit)
    (hbind : BindsTo s (fnOf name qual params body scope dV kV doc pm an cdv ct) args binds) (hloc : ∀ y ∈ binds, scope.names.lookup y.1 = some .local)
    (h : ∀ g L' h₁, Fr h₀ L g m → Fr g L' h₁ (fun y => binds.reverse.lookup y) → News g L' h₁ news → Below A base (env :: outer) g → K.In g → Top p loose mean mg mb g → KtsDicts ((env :: outer).filterMap (·.frame)) g →
      wpAny (model prog w) (A.deeper (envOf qual scope L' f cdv)) (execs body (envOf qual scope L' f cdv))
        (fun fl s' => LeaveS ((env :: outer).filterMap (·.frame)) A₀ base outer K p loose mean mg mb h₀ h₀ L m g R (match fl with | .ret v => v | _ => .none) s')
        (fun e s' => wpAny (model prog w) (A.deeper (envOf qual scope L' f cdv)) (leaving (envOf qual scope L' f cdv) e) (fun _ s'' => R (.error e) s'') (fun e' s'' => R (.error e') s'') s')
        { s with heap := h₁, toks := s.toks + binds.length })
    (hco : scope.isCoroutine = false) (hgen : scope.isGenerator = false) (hk : scope.kind = .function)
    (hcell : ∀ x ∈ scope.names, x.2 ≠ .cell) : codeAny (model prog w) A (.call (.ref f) args) R s := by
  have X := X₀.keeps F.keep
  obtain ⟨FG, BG, st, lv⟩ := groundX (R := R) B F N hA hf hke
  have nL₀ : h₀.get? L = none := kts_self F
  have hmem : ∀ b ∈ (env :: outer).filterMap (·.frame), b = L ∨ b ∈ outer.filterMap (·.frame) := fun b hb => by
    obtain ⟨e, he, hq⟩ := List.mem_filterMap.mp hb
    rcases List.mem_cons.mp he with rfl | he
    · rw [hf] at hq; exact .inl (Option.some.inj hq).symm
    · exact .inr (List.mem_filterMap.mpr ⟨e, he, hq⟩)
  refine codeAny_call_def (fd := fnOf name qual params body scope dV kV doc pm an cdv ct) (body := body) (binds := binds) hroom (X _ _ ho) rfl (T.nolimit.keeps F.keep) (codeRec_of X hcd) rfl hbind hcell hloc (fun h₁ hns hk₁ => ?_) hco hgen hk
  obtain ⟨oL, es, ep, hLg, hLd, hLk, hLf⟩ := FG.ns
  refine wpAny_mono (h _ s.heap.objs.size h₁ FG ⟨hns, fun b o e => hk₁ b o (of_hideAll _ e), Nat.le_of_eq (hideAll_size _ _)⟩
    (fun p hp => ⟨hk₁ _ _ (N p hp).1, Nat.ne_of_lt (Heap.lt_size (N p hp).1), hideAll_none _ (List.mem_map_of_mem hp)⟩) BG (X₀.keeps st) (T.keeps st) (fun b hb => by
      rcases hmem b hb with rfl | hb
      · exact ⟨oL, es, ep, hLg, hLd⟩
      · obtain ⟨o, es', n', ho', hd'⟩ := D b hb
        exact ⟨o, es', n', st b o ho', hd'⟩)) (fun fl s' hl => ?_) fun _ _ y => y
  rcases hl with ⟨L', m', news', F', N', k⟩ | ⟨g', L', m', news', T', F', N', k⟩
  · exact lv _ _ ⟨L', m', news', F', N', k⟩
  obtain ⟨sl, hs⟩ := T'.up hLg
  have up : ∀ b o, h₀.get? b = some o → ∃ sl', g'.get? b = some { o with slots := sl' } := fun b o e => T'.up (st b o e)
  obtain ⟨T₁, S₁⟩ := kts_turn_at (h := s'.heap) (fs := outer.filterMap (·.frame)) (g := h₀)
    (fun b hb => by
      obtain ⟨_, o, ho', _⟩ := B.frames.mem hb
      exact ⟨o, ho'⟩)
    (fun b o e nmem => F'.keep b o (T'.other b o (st b o e) (fun q => by
      rcases hmem b q with z | z
      · rw [z, nL₀] at e; cases e
      · exact nmem z)))
    (fun b o e hm => let ⟨sl', hs'⟩ := up b o e; ⟨sl', F'.keep _ _ hs'⟩)
  have B₃ : Below A₀ base outer (ktsHeap s'.heap (outer.filterMap (·.frame)) h₀) := ⟨B.stack, fun b o e => T₁.other b o (B.stays b o e) (fun hm => by
    rw [(B.frames.mem hm).1] at e; cases e), B.frames.of_keeps fun b o e _ => let ⟨sl', hs'⟩ := T₁.up e; ⟨_, hs', rfl⟩⟩
  refine k _ T₁ ⟨⟨_, es, ep, F'.keep _ _ hs, hLd, hLk, hLf⟩, S₁, by rw [T₁.size]; exact F.above⟩ (fun p hp => ⟨(N' p hp).1, fun q => ?_, ?_⟩) B₃ (XB.keeps B₃.stays) (TB.keeps B₃.stays) (D.turn T₁)
  · have := (N' p hp).2.2; rw [q, hs] at this; cases this
  · refine T₁.none_ _ ?_
    cases q : h₀.get? p.1 with
    | none => rfl
    | some o =>
      obtain ⟨sl', hs'⟩ := up _ _ q
      have := (N' p hp).2.2
      rw [hs'] at this; cases this
theorem use_ctrS {f : Addr} {k : Nat} {news : Led} {vs : List Value}
    {Post : (Led → Heap → Prop → Prop) → Shared → (Value → Shared → Prop) → Prop} {dp un : Nat} {gd : Option (List Code)} {cn : Str} {cs : Scope} {a : Addr} {ccd : Value} {cl : List (Str × Addr)} {outer : List Env} {A₀ : Around} {base h₀ : Heap} {L : Addr} {m : Str → Option Value} {s : Shared} {Q E : Value → Shared → Prop}
    (C : CtrS prog w p loose mean mg mb f k news vs Post) (B : Below A₀ base outer h₀) (F : Fr h₀ L s.heap m) (X : (Mine.hd.heap_1 w.params).In h₀) (N : News h₀ L s.heap news) (T : Top p loose mean mg mb h₀) (XB : (Mine.hd.heap_1 w.params).In base) (TB : Top p loose mean mg mb base) (D : KtsDicts (outer.filterMap (·.frame)) h₀) (hk : cs.kind = .function) (hd : dp + k < recursionLimit) (hu : un + 8 * k < cLine)
    (hp : Post (fun n h' X => Anew w p loose mean mg mb A₀ base outer h₀ L m h' n X) s Q) : wpAny (model prog w) (ktrTop dp un gd cn cs L a ccd cl outer) (call (.ref f) vs) Q E s :=
  C dp un gd cn cs a ccd cl outer A₀ base h₀ L m s Q E B F X N T XB TB D hk hd hu hp
end
end Mine

theorem Mine.lines_heard : True := by
  k_with "noteFrame ref" => (k_here; k_dflt (refine' Mine.caught_rf ?Rqq ?Fqq ?Kqq ?Uqq ?XBqq ?TBqq ?Dqq ?exqq ?_; (case Rqq => assumption); (case Fqq => assumption); (case Kqq => assumption); (case Uqq => assumption); (case XBqq => assumption); (case TBqq => assumption); (case Dqq => assumption); (case exqq => k_is)); intro hzz' gzz' Tzz' Fzz' Nzz' Kzz' Xzz' Pzz' Dzz'; (try k_lift Kzz'); (try k_sweep))
  trivial

theorem Mine.off_heard0 : True := by
  w_top off
  trivial

namespace Mine
section
variable {prog : Program} {w : World} {p : Program} {loose : List Str} {mean : ExcName → Option Value} {mg mb : Str → Option Value}
set_option maxHeartbeats 4000000 in
theorem ct_heard0 (news : Led) (X Y : Addr) (x0 x1 y0 y1 d tp : Int) (t0 t1 t2 u1 u2 v q : Tok) (c c' : Nat) (hX : (X, pairObj x0 x1 t1 t2 c) ∈ news) (hY : (Y, pairObj y0 y1 u1 u2 c') ∈ news)
    (hx : CB x0 20) (hy : CB y0 20) (hxl : -200 ≤ x1) (hxh : x1 ≤ 200) (hyl : -200 ≤ y1) (hyh : y1 ≤ 200) (hd0 : 0 ≤ d) (hd1 : d ≤ 12) :
    CtrS prog w p loose mean mg mb 202 28 news [.int 0 t0, .ref X, .ref Y, .int d v, .int tp q] (RetH news (rreal (x0 * 10 ^ (x1 - min x1 y1).toNat + y0 * 10 ^ (y1 - min x1 y1).toNat) (min x1 y1) d tp)) := by
  unfold CtrS
  intro dp un gd cn cs a ccd cl outer A₀ base h₀ L m s Q E B F X₀ N T XB TB D hk hd hu hret
  refine wpAny_call ?_
  k_dflt (refine' enter_try ?k1 ?k2 ?k3 ?k4 ?k5 ?XB ?TB ?D ?kA ?kF ?kK ?k6 ?k7 ?k8 ?k9 ?kB ?_ ?c2 ?c3 ?c4 ?c5; (case kA => exact rfl); (case kF => exact rfl); (case kK => assumption); (case k2 => k_asm); (case k1 => k_asm); (case XB => assumption); (case TB => assumption); (case D => assumption); (case k3 => k_asm); (case k4 => k_asm); (case k5 => k_asm); (case k6 => k_is); (case k7 => k_is); (case k8 => ktr_room); (case k9 => exact BindsTo.of_eq rfl); (case kB => exact locs rfl); (case c2 => exact rfl); (case c3 => exact rfl); (case c4 => exact rfl); (case c5 => decide); k_whole; intro g' L' h' FG' F' N' B' X' T' D'; (try dsimp only); (try k_lift B'); (try k_fold))
  k_steps
  · exact (hret.2 _ (by assumption)).1 (by assumption) _ _ _ _ _ _ (by assumption) _ KtsTurn.refl (by k_asm) (by k_asm) B X₀ T D
  · exact (hret.2 _ (by assumption)).2 (by assumption) _ _ _ KtsTurn.refl (by k_asm) (by k_asm) B X₀ T D
  · exact hret.1 (by assumption) _ _ _ (by assumption) (by k_asm) (by k_asm) (by assumption) (by assumption) (by assumption) (by assumption)
end
end Mine

theorem Mine.lines_heard0 : True := by
  k_with "call ref" => (k_here; (with_reducible show wpAny _ _ (call (Value.ref 202) (Value.int 0 _ :: _)) _ _ _); k_dflt (refine' Mine.use_ctrS (Mine.ct_heard0 _ _ _ _ _ _ _ _ _ _ _ _ _ _ _ _ _ _ ?kXqq ?kYqq ?kh1qq ?kh2qq ?kh3qq ?kh4qq ?kh5qq ?kh6qq ?kh7qq ?kh8qq) ?k1qq ?k2qq ?k3qq ?k4qq ?k5qq ?kXBqq ?kTBqq ?kDDqq ?kKqq ?kdqq ?kuqq ?_; (case k1qq => k_asm); (case k2qq => k_asm); (case k3qq => k_asm); (case k4qq => k_asm); (case k5qq => k_asm); (case kXBqq => assumption); (case kTBqq => assumption); (case kDDqq => first | assumption | exact ktsDicts_nil); (case kKqq => first | exact rfl | assumption); (case kdqq => ktr_room); (case kuqq => ktr_units); (case kXqq => k_extra "tb_rel"); (case kYqq => k_extra "tb_rel"); (case kh1qq => first | assumption | omega); (case kh2qq => first | assumption | omega); (case kh3qq => first | assumption | omega); (case kh4qq => first | assumption | omega); (case kh5qq => first | assumption | omega); (case kh6qq => first | assumption | omega); (case kh7qq => first | assumption | omega); (case kh8qq => first | assumption | omega)); (refine' ⟨fun ho9zz h9zz tk9zz g9zz T9zz F9zz N9zz B9zz X9zz P9zz K9zz => ?_, fun y9zz hy9zz => ⟨fun hp9zz D9zz t9zz u9zz c9zz h9zz tk9zz l9zz g9zz T9zz F9zz N9zz B9zz X9zz P9zz K9zz => ?_, fun hp9zz h9zz tk9zz g9zz T9zz F9zz N9zz B9zz X9zz P9zz K9zz => ?_⟩⟩); all_goals (try dsimp only); all_goals (try k_fold); all_goals (try k_sweep))
  trivial

theorem Mine.off_heard1 : True := by
  w_top off
  trivial

namespace Mine
section
variable {prog : Program} {w : World} {p : Program} {loose : List Str} {mean : ExcName → Option Value} {mg mb : Str → Option Value}
set_option maxHeartbeats 4000000 in
theorem ct_heard1 (news : Led) (X Y : Addr) (x0 x1 y0 y1 d tp : Int) (t0 t1 t2 u1 u2 v q : Tok) (c c' : Nat) (hX : (X, pairObj x0 x1 t1 t2 c) ∈ news) (hY : (Y, pairObj y0 y1 u1 u2 c') ∈ news)
    (hx : CB x0 20) (hy : CB y0 20) (hxl : -200 ≤ x1) (hxh : x1 ≤ 200) (hyl : -200 ≤ y1) (hyh : y1 ≤ 200) (hd0 : 0 ≤ d) (hd1 : d ≤ 12) :
    CtrS prog w p loose mean mg mb 202 28 news [.int 1 t0, .ref X, .ref Y, .int d v, .int tp q] (RetH news (rreal (x0 * 10 ^ (x1 - min x1 y1).toNat + -y0 * 10 ^ (y1 - min x1 y1).toNat) (min x1 y1) d tp)) := by
  unfold CtrS
  intro dp un gd cn cs a ccd cl outer A₀ base h₀ L m s Q E B F X₀ N T XB TB D hk hd hu hret
  refine wpAny_call ?_
  k_dflt (refine' enter_try ?k1 ?k2 ?k3 ?k4 ?k5 ?XB ?TB ?D ?kA ?kF ?kK ?k6 ?k7 ?k8 ?k9 ?kB ?_ ?c2 ?c3 ?c4 ?c5; (case kA => exact rfl); (case kF => exact rfl); (case kK => assumption); (case k2 => k_asm); (case k1 => k_asm); (case XB => assumption); (case TB => assumption); (case D => assumption); (case k3 => k_asm); (case k4 => k_asm); (case k5 => k_asm); (case k6 => k_is); (case k7 => k_is); (case k8 => ktr_room); (case k9 => exact BindsTo.of_eq rfl); (case kB => exact locs rfl); (case c2 => exact rfl); (case c3 => exact rfl); (case c4 => exact rfl); (case c5 => decide); k_whole; intro g' L' h' FG' F' N' B' X' T' D'; (try dsimp only); (try k_lift B'); (try k_fold))
  k_steps
  · exact (hret.2 _ (by assumption)).1 (by assumption) _ _ _ _ _ _ (by assumption) _ KtsTurn.refl (by k_asm) (by k_asm) B X₀ T D
  · exact (hret.2 _ (by assumption)).2 (by assumption) _ _ _ KtsTurn.refl (by k_asm) (by k_asm) B X₀ T D
  · exact hret.1 (by assumption) _ _ _ (by assumption) (by k_asm) (by k_asm) (by assumption) (by assumption) (by assumption) (by assumption)
end
end Mine

theorem Mine.lines_heard1 : True := by
  k_with "call ref" => (k_here; (with_reducible show wpAny _ _ (call (Value.ref 202) (Value.int 1 _ :: _)) _ _ _); k_dflt (refine' Mine.use_ctrS (Mine.ct_heard1 _ _ _ _ _ _ _ _ _ _ _ _ _ _ _ _ _ _ ?kXqq ?kYqq ?kh1qq ?kh2qq ?kh3qq ?kh4qq ?kh5qq ?kh6qq ?kh7qq ?kh8qq) ?k1qq ?k2qq ?k3qq ?k4qq ?k5qq ?kXBqq ?kTBqq ?kDDqq ?kKqq ?kdqq ?kuqq ?_; (case k1qq => k_asm); (case k2qq => k_asm); (case k3qq => k_asm); (case k4qq => k_asm); (case k5qq => k_asm); (case kXBqq => assumption); (case kTBqq => assumption); (case kDDqq => first | assumption | exact ktsDicts_nil); (case kKqq => first | exact rfl | assumption); (case kdqq => ktr_room); (case kuqq => ktr_units); (case kXqq => k_extra "tb_rel"); (case kYqq => k_extra "tb_rel"); (case kh1qq => first | assumption | omega); (case kh2qq => first | assumption | omega); (case kh3qq => first | assumption | omega); (case kh4qq => first | assumption | omega); (case kh5qq => first | assumption | omega); (case kh6qq => first | assumption | omega); (case kh7qq => first | assumption | omega); (case kh8qq => first | assumption | omega)); (refine' ⟨fun ho9zz h9zz tk9zz g9zz T9zz F9zz N9zz B9zz X9zz P9zz K9zz => ?_, fun y9zz hy9zz => ⟨fun hp9zz D9zz t9zz u9zz c9zz h9zz tk9zz l9zz g9zz T9zz F9zz N9zz B9zz X9zz P9zz K9zz => ?_, fun hp9zz h9zz tk9zz g9zz T9zz F9zz N9zz B9zz X9zz P9zz K9zz => ?_⟩⟩); all_goals (try dsimp only); all_goals (try k_fold); all_goals (try k_sweep))
  trivial

theorem Mine.off_heard2 : True := by
  w_top off
  trivial

namespace Mine
section
variable {prog : Program} {w : World} {p : Program} {loose : List Str} {mean : ExcName → Option Value} {mg mb : Str → Option Value}
set_option maxHeartbeats 4000000 in
theorem ct_heard2 (news : Led) (X Y : Addr) (x0 x1 y0 y1 d tp : Int) (t0 t1 t2 u1 u2 v q : Tok) (c c' : Nat) (hX : (X, pairObj x0 x1 t1 t2 c) ∈ news) (hY : (Y, pairObj y0 y1 u1 u2 c') ∈ news)
    (hx : CB x0 20) (hy : CB y0 20) (hxl : -200 ≤ x1) (hxh : x1 ≤ 200) (hyl : -200 ≤ y1) (hyh : y1 ≤ 200) (hd0 : 0 ≤ d) (hd1 : d ≤ 12) :
    CtrS prog w p loose mean mg mb 202 28 news [.int 2 t0, .ref X, .ref Y, .int d v, .int tp q] (RetH news (rreal (x0 * y0) (x1 + y1) d tp)) := by
  unfold CtrS
  intro dp un gd cn cs a ccd cl outer A₀ base h₀ L m s Q E B F X₀ N T XB TB D hk hd hu hret
  refine wpAny_call ?_
  k_dflt (refine' enter_try ?k1 ?k2 ?k3 ?k4 ?k5 ?XB ?TB ?D ?kA ?kF ?kK ?k6 ?k7 ?k8 ?k9 ?kB ?_ ?c2 ?c3 ?c4 ?c5; (case kA => exact rfl); (case kF => exact rfl); (case kK => assumption); (case k2 => k_asm); (case k1 => k_asm); (case XB => assumption); (case TB => assumption); (case D => assumption); (case k3 => k_asm); (case k4 => k_asm); (case k5 => k_asm); (case k6 => k_is); (case k7 => k_is); (case k8 => ktr_room); (case k9 => exact BindsTo.of_eq rfl); (case kB => exact locs rfl); (case c2 => exact rfl); (case c3 => exact rfl); (case c4 => exact rfl); (case c5 => decide); k_whole; intro g' L' h' FG' F' N' B' X' T' D'; (try dsimp only); (try k_lift B'); (try k_fold))
  k_steps
  · exact (hret.2 _ (by assumption)).1 (by assumption) _ _ _ _ _ _ (by assumption) _ KtsTurn.refl (by k_asm) (by k_asm) B X₀ T D
  · exact (hret.2 _ (by assumption)).2 (by assumption) _ _ _ KtsTurn.refl (by k_asm) (by k_asm) B X₀ T D
  · exact hret.1 (by assumption) _ _ _ (by assumption) (by k_asm) (by k_asm) (by assumption) (by assumption) (by assumption) (by assumption)
end
end Mine

theorem Mine.lines_heard2 : True := by
  k_with "call ref" => (k_here; (with_reducible show wpAny _ _ (call (Value.ref 202) (Value.int 2 _ :: _)) _ _ _); k_dflt (refine' Mine.use_ctrS (Mine.ct_heard2 _ _ _ _ _ _ _ _ _ _ _ _ _ _ _ _ _ _ ?kXqq ?kYqq ?kh1qq ?kh2qq ?kh3qq ?kh4qq ?kh5qq ?kh6qq ?kh7qq ?kh8qq) ?k1qq ?k2qq ?k3qq ?k4qq ?k5qq ?kXBqq ?kTBqq ?kDDqq ?kKqq ?kdqq ?kuqq ?_; (case k1qq => k_asm); (case k2qq => k_asm); (case k3qq => k_asm); (case k4qq => k_asm); (case k5qq => k_asm); (case kXBqq => assumption); (case kTBqq => assumption); (case kDDqq => first | assumption | exact ktsDicts_nil); (case kKqq => first | exact rfl | assumption); (case kdqq => ktr_room); (case kuqq => ktr_units); (case kXqq => k_extra "tb_rel"); (case kYqq => k_extra "tb_rel"); (case kh1qq => first | assumption | omega); (case kh2qq => first | assumption | omega); (case kh3qq => first | assumption | omega); (case kh4qq => first | assumption | omega); (case kh5qq => first | assumption | omega); (case kh6qq => first | assumption | omega); (case kh7qq => first | assumption | omega); (case kh8qq => first | assumption | omega)); (refine' ⟨fun ho9zz h9zz tk9zz g9zz T9zz F9zz N9zz B9zz X9zz P9zz K9zz => ?_, fun y9zz hy9zz => ⟨fun hp9zz D9zz t9zz u9zz c9zz h9zz tk9zz l9zz g9zz T9zz F9zz N9zz B9zz X9zz P9zz K9zz => ?_, fun hp9zz h9zz tk9zz g9zz T9zz F9zz N9zz B9zz X9zz P9zz K9zz => ?_⟩⟩); all_goals (try dsimp only); all_goals (try k_fold); all_goals (try k_sweep))
  trivial

theorem Mine.off_heard3 : True := by
  w_top off
  trivial

namespace Mine
section
variable {prog : Program} {w : World} {p : Program} {loose : List Str} {mean : ExcName → Option Value} {mg mb : Str → Option Value}
set_option maxHeartbeats 4000000 in
theorem ct_heard3 (news : Led) (X Y : Addr) (x0 x1 y0 y1 d tp : Int) (t0 t1 t2 u1 u2 v q : Tok) (c c' : Nat) (hX : (X, pairObj x0 x1 t1 t2 c) ∈ news) (hY : (Y, pairObj y0 y1 u1 u2 c') ∈ news)
    (hx : CB x0 20) (hy : CB y0 20) (hxl : -200 ≤ x1) (hxh : x1 ≤ 200) (hyl : -200 ≤ y1) (hyh : y1 ≤ 200) (hd0 : 0 ≤ d) (hd1 : d ≤ 12) :
    CtrS prog w p loose mean mg mb 202 28 news [.int 3 t0, .ref X, .ref Y, .int d v, .int tp q] (RetH news (rdivP x0 x1 y0 y1 d tp)) := by
  unfold CtrS
  intro dp un gd cn cs a ccd cl outer A₀ base h₀ L m s Q E B F X₀ N T XB TB D hk hd hu hret
  refine wpAny_call ?_
  k_dflt (refine' enter_try ?k1 ?k2 ?k3 ?k4 ?k5 ?XB ?TB ?D ?kA ?kF ?kK ?k6 ?k7 ?k8 ?k9 ?kB ?_ ?c2 ?c3 ?c4 ?c5; (case kA => exact rfl); (case kF => exact rfl); (case kK => assumption); (case k2 => k_asm); (case k1 => k_asm); (case XB => assumption); (case TB => assumption); (case D => assumption); (case k3 => k_asm); (case k4 => k_asm); (case k5 => k_asm); (case k6 => k_is); (case k7 => k_is); (case k8 => ktr_room); (case k9 => exact BindsTo.of_eq rfl); (case kB => exact locs rfl); (case c2 => exact rfl); (case c3 => exact rfl); (case c4 => exact rfl); (case c5 => decide); k_whole; intro g' L' h' FG' F' N' B' X' T' D'; (try dsimp only); (try k_lift B'); (try k_fold))
  k_steps
  · exact (hret.2 _ (by assumption)).1 (by assumption) _ _ _ _ _ _ (by assumption) _ KtsTurn.refl (by k_asm) (by k_asm) B X₀ T D
  · exact (hret.2 _ (by assumption)).2 (by assumption) _ _ _ KtsTurn.refl (by k_asm) (by k_asm) B X₀ T D
  · exact hret.1 (by assumption) _ _ _ (by assumption) (by k_asm) (by k_asm) (by assumption) (by assumption) (by assumption) (by assumption)
end
end Mine

theorem Mine.lines_heard3 : True := by
  k_with "call ref" => (k_here; (with_reducible show wpAny _ _ (call (Value.ref 202) (Value.int 3 _ :: _)) _ _ _); k_dflt (refine' Mine.use_ctrS (Mine.ct_heard3 _ _ _ _ _ _ _ _ _ _ _ _ _ _ _ _ _ _ ?kXqq ?kYqq ?kh1qq ?kh2qq ?kh3qq ?kh4qq ?kh5qq ?kh6qq ?kh7qq ?kh8qq) ?k1qq ?k2qq ?k3qq ?k4qq ?k5qq ?kXBqq ?kTBqq ?kDDqq ?kKqq ?kdqq ?kuqq ?_; (case k1qq => k_asm); (case k2qq => k_asm); (case k3qq => k_asm); (case k4qq => k_asm); (case k5qq => k_asm); (case kXBqq => assumption); (case kTBqq => assumption); (case kDDqq => first | assumption | exact ktsDicts_nil); (case kKqq => first | exact rfl | assumption); (case kdqq => ktr_room); (case kuqq => ktr_units); (case kXqq => k_extra "tb_rel"); (case kYqq => k_extra "tb_rel"); (case kh1qq => first | assumption | omega); (case kh2qq => first | assumption | omega); (case kh3qq => first | assumption | omega); (case kh4qq => first | assumption | omega); (case kh5qq => first | assumption | omega); (case kh6qq => first | assumption | omega); (case kh7qq => first | assumption | omega); (case kh8qq => first | assumption | omega)); (refine' ⟨fun ho9zz h9zz tk9zz g9zz T9zz F9zz N9zz B9zz X9zz P9zz K9zz => ?_, fun y9zz hy9zz => ⟨fun hp9zz D9zz t9zz u9zz c9zz h9zz tk9zz l9zz g9zz T9zz F9zz N9zz B9zz X9zz P9zz K9zz => ?_, fun hp9zz h9zz tk9zz g9zz T9zz F9zz N9zz B9zz X9zz P9zz K9zz => ?_⟩⟩); all_goals (try dsimp only); all_goals (try k_fold); all_goals (try k_sweep))
  trivial

theorem Mine.off_heard4 : True := by
  w_top off
  trivial

namespace Mine
section
variable {prog : Program} {w : World} {p : Program} {loose : List Str} {mean : ExcName → Option Value} {mg mb : Str → Option Value}
set_option maxHeartbeats 4000000 in
theorem ct_heard4 (news : Led) (X : Addr) (x0 x1 n d tp : Int) (t0 t1 t2 u1 v q : Tok) (c : Nat) (hX : (X, pairObj x0 x1 t1 t2 c) ∈ news) (hx : CB x0 9) (hn0 : -200 ≤ n) (hn1 : n ≤ 200) (hd0 : 0 ≤ d) (hd1 : d ≤ 12) :
    CtrS prog w p loose mean mg mb 202 28 news [.int 4 t0, .ref X, .int n u1, .int d v, .int tp q] (RetH news (rpowP x0 x1 n d tp)) := by
  unfold CtrS
  intro dp un gd cn cs a ccd cl outer A₀ base h₀ L m s Q E B F X₀ N T XB TB D hk hd hu hret
  refine wpAny_call ?_
  k_dflt (refine' enter_try ?k1 ?k2 ?k3 ?k4 ?k5 ?XB ?TB ?D ?kA ?kF ?kK ?k6 ?k7 ?k8 ?k9 ?kB ?_ ?c2 ?c3 ?c4 ?c5; (case kA => exact rfl); (case kF => exact rfl); (case kK => assumption); (case k2 => k_asm); (case k1 => k_asm); (case XB => assumption); (case TB => assumption); (case D => assumption); (case k3 => k_asm); (case k4 => k_asm); (case k5 => k_asm); (case k6 => k_is); (case k7 => k_is); (case k8 => ktr_room); (case k9 => exact BindsTo.of_eq rfl); (case kB => exact locs rfl); (case c2 => exact rfl); (case c3 => exact rfl); (case c4 => exact rfl); (case c5 => decide); k_whole; intro g' L' h' FG' F' N' B' X' T' D'; (try dsimp only); (try k_lift B'); (try k_fold))
  k_steps
  · exact (hret.2 _ (by assumption)).1 (by assumption) _ _ _ _ _ _ (by assumption) _ KtsTurn.refl (by k_asm) (by k_asm) B X₀ T D
  · exact (hret.2 _ (by assumption)).2 (by assumption) _ _ _ KtsTurn.refl (by k_asm) (by k_asm) B X₀ T D
  · exact hret.1 (by assumption) _ _ _ (by assumption) (by k_asm) (by k_asm) (by assumption) (by assumption) (by assumption) (by assumption)
end
end Mine

theorem Mine.lines_heard4 : True := by
  k_with "call ref" => (k_here; (with_reducible show wpAny _ _ (call (Value.ref 202) (Value.int 4 _ :: _)) _ _ _); k_dflt (refine' Mine.use_ctrS (Mine.ct_heard4 _ _ _ _ _ _ _ _ _ _ _ _ _ _ ?kXqq ?kh1qq ?kh2qq ?kh3qq ?kh4qq ?kh5qq) ?k1qq ?k2qq ?k3qq ?k4qq ?k5qq ?kXBqq ?kTBqq ?kDDqq ?kKqq ?kdqq ?kuqq ?_; (case k1qq => k_asm); (case k2qq => k_asm); (case k3qq => k_asm); (case k4qq => k_asm); (case k5qq => k_asm); (case kXBqq => assumption); (case kTBqq => assumption); (case kDDqq => first | assumption | exact ktsDicts_nil); (case kKqq => first | exact rfl | assumption); (case kdqq => ktr_room); (case kuqq => ktr_units); (case kXqq => k_extra "tb_rel"); (case kh1qq => first | assumption | omega); (case kh2qq => first | assumption | omega); (case kh3qq => first | assumption | omega); (case kh4qq => first | assumption | omega); (case kh5qq => first | assumption | omega)); (refine' ⟨fun ho9zz h9zz tk9zz g9zz T9zz F9zz N9zz B9zz X9zz P9zz K9zz => ?_, fun y9zz hy9zz => ⟨fun hp9zz D9zz t9zz u9zz c9zz h9zz tk9zz l9zz g9zz T9zz F9zz N9zz B9zz X9zz P9zz K9zz => ?_, fun hp9zz h9zz tk9zz g9zz T9zz F9zz N9zz B9zz X9zz P9zz K9zz => ?_⟩⟩); all_goals (try dsimp only); all_goals (try k_fold); all_goals (try k_sweep))
  trivial

theorem Mine.off_heard5 : True := by
  w_top off
  trivial

namespace Mine
section
variable {prog : Program} {w : World} {p : Program} {loose : List Str} {mean : ExcName → Option Value} {mg mb : Str → Option Value}
set_option maxHeartbeats 4000000 in
theorem ct_heard5 (news : Led) (X : Value) (n d tp : Int) (t0 u1 v q : Tok) (hx : CB n 2600) (hd0 : 0 ≤ d) :
    CtrS prog w p loose mean mg mb 202 28 news [.int 5 t0, X, .int n u1, .int d v, .int tp q] (RetH news (rreal n 0 d tp)) := by
  unfold CtrS
  intro dp un gd cn cs a ccd cl outer A₀ base h₀ L m s Q E B F X₀ N T XB TB D hk hd hu hret
  refine wpAny_call ?_
  k_dflt (refine' enter_try ?k1 ?k2 ?k3 ?k4 ?k5 ?XB ?TB ?D ?kA ?kF ?kK ?k6 ?k7 ?k8 ?k9 ?kB ?_ ?c2 ?c3 ?c4 ?c5; (case kA => exact rfl); (case kF => exact rfl); (case kK => assumption); (case k2 => k_asm); (case k1 => k_asm); (case XB => assumption); (case TB => assumption); (case D => assumption); (case k3 => k_asm); (case k4 => k_asm); (case k5 => k_asm); (case k6 => k_is); (case k7 => k_is); (case k8 => ktr_room); (case k9 => exact BindsTo.of_eq rfl); (case kB => exact locs rfl); (case c2 => exact rfl); (case c3 => exact rfl); (case c4 => exact rfl); (case c5 => decide); k_whole; intro g' L' h' FG' F' N' B' X' T' D'; (try dsimp only); (try k_lift B'); (try k_fold))
  k_steps
  · exact (hret.2 _ (by assumption)).1 (by assumption) _ _ _ _ _ _ (by assumption) _ KtsTurn.refl (by k_asm) (by k_asm) B X₀ T D
  · exact (hret.2 _ (by assumption)).2 (by assumption) _ _ _ KtsTurn.refl (by k_asm) (by k_asm) B X₀ T D
  · exact hret.1 (by assumption) _ _ _ (by assumption) (by k_asm) (by k_asm) (by assumption) (by assumption) (by assumption) (by assumption)
end
end Mine

theorem Mine.lines_heard5 : True := by
  k_with "call ref" => (k_here; (with_reducible show wpAny _ _ (call (Value.ref 202) (Value.int 5 _ :: _)) _ _ _); k_dflt (refine' Mine.use_ctrS (Mine.ct_heard5 _ _ _ _ _ _ _ _ _ ?kh1qq ?kh2qq) ?k1qq ?k2qq ?k3qq ?k4qq ?k5qq ?kXBqq ?kTBqq ?kDDqq ?kKqq ?kdqq ?kuqq ?_; (case k1qq => k_asm); (case k2qq => k_asm); (case k3qq => k_asm); (case k4qq => k_asm); (case k5qq => k_asm); (case kXBqq => assumption); (case kTBqq => assumption); (case kDDqq => first | assumption | exact ktsDicts_nil); (case kKqq => first | exact rfl | assumption); (case kdqq => ktr_room); (case kuqq => ktr_units); (case kh1qq => first | assumption | (refine' Mine.CB.le ?cbaqq ?cbbqq; (case cbaqq => k_extra "tb_start"); (case cbbqq => omega))); (case kh2qq => first | assumption | omega)); (refine' ⟨fun ho9zz h9zz tk9zz g9zz T9zz F9zz N9zz B9zz X9zz P9zz K9zz => ?_, fun y9zz hy9zz => ⟨fun hp9zz D9zz t9zz u9zz c9zz h9zz tk9zz l9zz g9zz T9zz F9zz N9zz B9zz X9zz P9zz K9zz => ?_, fun hp9zz h9zz tk9zz g9zz T9zz F9zz N9zz B9zz X9zz P9zz K9zz => ?_⟩⟩); all_goals (try dsimp only); all_goals (try k_fold); all_goals (try k_sweep))
  trivial

theorem Mine.off_heard6 : True := by
  w_top off
  trivial

namespace Mine
section
variable {prog : Program} {w : World} {p : Program} {loose : List Str} {mean : ExcName → Option Value} {mg mb : Str → Option Value}
set_option maxHeartbeats 4000000 in
theorem ct_heard6 (news : Led) (n e d tp : Int) (t0 u1 u2 v q : Tok) (hx : CB n 2600) (hd0 : 0 ≤ d) :
    CtrS prog w p loose mean mg mb 202 28 news [.int 6 t0, .int n u1, .int e u2, .int d v, .int tp q] (RetH news (rreal n e d tp)) := by
  unfold CtrS
  intro dp un gd cn cs a ccd cl outer A₀ base h₀ L m s Q E B F X₀ N T XB TB D hk hd hu hret
  refine wpAny_call ?_
  k_dflt (refine' enter_try ?k1 ?k2 ?k3 ?k4 ?k5 ?XB ?TB ?D ?kA ?kF ?kK ?k6 ?k7 ?k8 ?k9 ?kB ?_ ?c2 ?c3 ?c4 ?c5; (case kA => exact rfl); (case kF => exact rfl); (case kK => assumption); (case k2 => k_asm); (case k1 => k_asm); (case XB => assumption); (case TB => assumption); (case D => assumption); (case k3 => k_asm); (case k4 => k_asm); (case k5 => k_asm); (case k6 => k_is); (case k7 => k_is); (case k8 => ktr_room); (case k9 => exact BindsTo.of_eq rfl); (case kB => exact locs rfl); (case c2 => exact rfl); (case c3 => exact rfl); (case c4 => exact rfl); (case c5 => decide); k_whole; intro g' L' h' FG' F' N' B' X' T' D'; (try dsimp only); (try k_lift B'); (try k_fold))
  k_steps
  · exact (hret.2 _ (by assumption)).1 (by assumption) _ _ _ _ _ _ (by assumption) _ KtsTurn.refl (by k_asm) (by k_asm) B X₀ T D
  · exact (hret.2 _ (by assumption)).2 (by assumption) _ _ _ KtsTurn.refl (by k_asm) (by k_asm) B X₀ T D
  · exact hret.1 (by assumption) _ _ _ (by assumption) (by k_asm) (by k_asm) (by assumption) (by assumption) (by assumption) (by assumption)
end
end Mine

theorem Mine.lines_heard6 : True := by
  k_with "call ref" => (k_here; (with_reducible show wpAny _ _ (call (Value.ref 202) (Value.int 6 _ :: _)) _ _ _); k_dflt (refine' Mine.use_ctrS (Mine.ct_heard6 _ _ _ _ _ _ _ _ _ _ ?kh1qq ?kh2qq) ?k1qq ?k2qq ?k3qq ?k4qq ?k5qq ?kXBqq ?kTBqq ?kDDqq ?kKqq ?kdqq ?kuqq ?_; (case k1qq => k_asm); (case k2qq => k_asm); (case k3qq => k_asm); (case k4qq => k_asm); (case k5qq => k_asm); (case kXBqq => assumption); (case kTBqq => assumption); (case kDDqq => first | assumption | exact ktsDicts_nil); (case kKqq => first | exact rfl | assumption); (case kdqq => ktr_room); (case kuqq => ktr_units); (case kh1qq => first | assumption | (refine' Mine.CB.le ?cbaqq ?cbbqq; (case cbaqq => k_extra "tb_start"); (case cbbqq => omega))); (case kh2qq => first | assumption | omega)); (refine' ⟨fun ho9zz h9zz tk9zz g9zz T9zz F9zz N9zz B9zz X9zz P9zz K9zz => ?_, fun y9zz hy9zz => ⟨fun hp9zz D9zz t9zz u9zz c9zz h9zz tk9zz l9zz g9zz T9zz F9zz N9zz B9zz X9zz P9zz K9zz => ?_, fun hp9zz h9zz tk9zz g9zz T9zz F9zz N9zz B9zz X9zz P9zz K9zz => ?_⟩⟩); all_goals (try dsimp only); all_goals (try k_fold); all_goals (try k_sweep))
  trivial

theorem Mine.off_pick : True := by
  w_top off
  trivial

namespace Mine
/-- an int of the script, cut -/
def pickP (ns : List Int) (i m : Int) : Int := if i < ns.length then (ns.getD i.toNat 0).fmod m else 0
section
variable {prog : Program} {w : World} {A : Around} {E : Value → Shared → Prop} {s : Shared} {h₀ : Heap} {L D : Addr} {m : Str → Option Value} {news : Led} {vs : List Value} {ns : List Int} {k : Int} {u : Tok} {c : Nat} {Q : Value → Shared → Prop}
theorem isList_news (N : News h₀ L s.heap news) (hm : (D, W.listOf vs.toArray c) ∈ news) : s.heap.IsList D vs.toArray := ⟨_, (N _ hm).1, rfl, c, rfl⟩
theorem len_news (N : News h₀ L s.heap news) (hm : (D, W.listOf vs.toArray c) ∈ news) (hI : IntsAre vs ns) (hlen : ns.length ≤ 12) (h : Q (.int (ns.length : Int) (s.toks + 1)) { s with toks := s.toks + 1 + 1 }) : wpAny (model prog w) A (call (.builtin "len") [.ref D]) Q E s := by
  have e : vs.toArray.size = ns.length := by have := IntsAre.length hI; simpa using this
  exact len_list (isList_news N hm) (by rw [e]; omega) (by rw [e]; exact h)
theorem item_news {value slice : PySem.Expr} (N : News h₀ L s.heap news) (hm : (D, W.listOf vs.toArray c) ∈ news) (hI : IntsAre vs ns) (hlen : ns.length ≤ 12) (h0 : 0 ≤ k) (h1 : k < ns.length) (h : ∀ t, Q (.int (ns.getD k.toNat 0) t) s)
    (hs : subscripted slice false (.ref D) (.int k u) = operate [.ref D, .int k u] (getItem (.ref D) (.int k u)) := by with_unfolding_all rfl) (hg : ∀ r, letTemporaryGo value (.ref D) r = pure () := by intro _; with_unfolding_all rfl) :
    wpAny (model prog w) A (subscriptTail value slice (.ref D) (.int k u)) Q E s :=
  item_list_ints (isList_news N hm) hI h0 h1 (by omega) h hs hg
end
end Mine

theorem Mine.lines_pick : True := by
  k_with "call builtin:len" => (k_here; (with_reducible show wpAny _ _ (call (Value.builtin _) [Value.ref _]) _ _ _); k_dflt (refine' Mine.len_news ?k1qq ?k2qq ?k3qq ?k4qq ?_; (case k1qq => k_asm); (case k2qq => k_extra "tb_rel"); (case k3qq => with_reducible assumption); (case k4qq => omega)))
  k_with "subscriptTail" => (k_here; (with_reducible show wpAny _ _ (subscriptTail _ _ (Value.ref _) (Value.int _ _)) _ _ _); (with_reducible rename IntsAre _ _ => ia0zz); k_dflt (refine' Mine.item_news ?k1qq ?k2qq ?k3qq ?k4qq ?k5qq ?k6qq ?_; (case k1qq => k_asm); (case k2qq => k_extra "tb_rel"); (case k3qq => with_reducible assumption); (case k4qq => omega); (case k5qq => first | assumption | omega); (case k6qq => first | assumption | omega)); intro tzz')
  trivial

theorem Mine.off_pick2 : True := by
  w_top off
  trivial

namespace Mine
section
variable {prog : Program} {w : World} {p : Program} {loose : List Str} {mean : ExcName → Option Value} {mg mb : Str → Option Value}
set_option maxHeartbeats 4000000 in
theorem ct_pick (news : Led) (D : Addr) (vs : List Value) (ns : List Int) (i mm : Int) (c : Nat) (t1 t2 : Tok) (hD : (D, W.listOf vs.toArray c) ∈ news) (hI : IntsAre vs ns) (hlen : ns.length ≤ 12) (hi0 : 0 ≤ i) (hm : 0 < mm) :
    Ctr prog w p loose mean mg mb 173 4 news [.ref D, .int i t1, .int mm t2] (RetI news (pickP ns i mm)) := by
  unfold Ctr
  intro dp un gd cn cs a ccd cl outer A₀ base h₀ L m s Q E B F X₀ N T hk hd hu hret
  have hm0 : mm ≠ 0 := by omega
  refine wpAny_call ?_
  k_dflt cell_enter
  k_steps
  · exact retI_of hret (by k_asm) (by k_asm) (if_pos (by assumption)).symm
  · exact retI_of hret (by k_asm) (by k_asm) (if_neg (by assumption)).symm
end
end Mine

theorem Mine.lines_pick2 : True := by
  k_with "call ref" => (k_here; (with_reducible show wpAny _ _ (call (Value.ref 173) _) _ _ _); k_dflt (refine' Mine.use_ctr (Mine.ct_pick _ _ _ _ _ _ _ _ _ ?kh1qq ?kh2qq ?kh3qq ?kh4qq ?kh5qq) ?k1qq ?k2qq ?k3qq ?k4qq ?k5qq ?kKqq ?kdqq ?kuqq ?_; (case k1qq => k_asm); (case k2qq => k_asm); (case k3qq => k_asm); (case k4qq => k_asm); (case k5qq => k_asm); (case kKqq => first | exact rfl | assumption); (case kdqq => ktr_room); (case kuqq => ktr_units); (case kh1qq => k_extra "tb_rel"); (case kh2qq => with_reducible assumption); (case kh3qq => first | assumption | omega); (case kh4qq => first | assumption | omega); (case kh5qq => first | assumption | omega | decide)); intro t9zz h9zz tk9zz F9zz N9zz; (try dsimp only); (try k_fold); (try k_sweep))
  trivial

theorem Mine.off_lreal0 : True := by
  w_top off
  trivial

namespace Mine
/-- the figures of a told decimal -/
abbrev figP (v d : Int) : Int := (v.fdiv 2 + 7).fmod (10 ^ d.toNat)
abbrev leadP (w : Int) : Int := if w.fmod 2 = 1 then (w + 1).fdiv 2 else -(w.fdiv 2)
/-- _law_real -/
def lrealP (v w d : Int) : Int × Int := if figP v d = 0 then (0, 0) else ((1 - 2 * v.fmod 2) * (strip (figP v d) 0).1, leadP w - cd (strip (figP v d) 0).1 + 1)
theorem figP_ge (v d : Int) : 0 ≤ figP v d := by
  unfold figP; exact Int.fmod_nonneg_of_pos _ (Int.pow_pos (by decide))
theorem figP_lt (v : Int) {d : Int} (h1 : d ≤ 9) : figP v d < 10 ^ 9 := by
  have h2 := Int.fmod_lt_of_pos (v.fdiv 2 + 7) (b := 10 ^ d.toNat) (Int.pow_pos (by decide))
  have h3 : ((10 ^ d.toNat : Nat) : Int) ≤ ((10 ^ 9 : Nat) : Int) := Int.ofNat_le.mpr (pow_mono (by omega))
  rw [Int.natCast_pow, Int.natCast_pow] at h3
  have h4 : ((10 : Nat) : Int) = 10 := rfl
  rw [h4] at h3
  unfold figP; omega
section
variable {prog : Program} {w : World} {A : Around} {E : Value → Shared → Prop} {s : Shared} {Q : Value → Shared → Prop} {n : Int} {t u : Tok}
theorem rstrip_numz (h0 : n = 0) (h : ∀ t' k, Q (.str (Str.ofString "") t') { s with toks := k }) : wpAny (model prog w) A (call (.builtin "str.rstrip") [.str (Str.ofString (toString n)) t, .str (Str.ofString "0") u]) Q E s := by
  subst h0
  refine SC.rstripChars (fun t' k => ?_) ?_
  · rw [rstrip_zero]; exact h t' k
  · decide
end
end Mine

theorem Mine.lines_lreal0 : True := by
  k_with "call builtin:str.rstrip" => (k_here; k_dflt (refine' Mine.rstrip_numz ?k0qq ?_; (case k0qq => with_reducible assumption)); intro tzz' kzz')
  trivial

theorem Mine.off_lreal : True := by
  w_top off
  trivial

namespace Mine
section
variable {prog : Program} {w : World} {p : Program} {loose : List Str} {mean : ExcName → Option Value} {mg mb : Str → Option Value}
set_option maxHeartbeats 4000000 in
theorem ct_lreal (news : Led) (D : Addr) (vs : List Value) (ns : List Int) (i d tp : Int) (c : Nat) (t1 t2 t3 : Tok) (hD : (D, W.listOf vs.toArray c) ∈ news) (hI : IntsAre vs ns) (hlen : ns.length ≤ 12) (hi0 : 0 ≤ i) (hd1 : 1 ≤ d) (hd9 : d ≤ 9) (ht0 : 3 ≤ tp) (ht1 : tp ≤ 40) :
    Ctr prog w p loose mean mg mb 195 8 news [.ref D, .int i t1, .int d t2, .int tp t3] (RetN news (lrealP (pickP ns i (2 * 10 ^ Int.toNat 16)) (pickP ns (i + 1) (2 * tp + 1)) d)) := by
  unfold Ctr
  intro dp un gd cn cs a ccd cl outer A₀ base h₀ L m s Q E B F X₀ N T hk hd hu hret
  have hg0 := figP_ge (pickP ns i (2 * 10 ^ Int.toNat 16)) d
  have hg1 := figP_lt (pickP ns i (2 * 10 ^ Int.toNat 16)) hd9
  have hJ : JW (Str.ofString "lead") (leadP (pickP ns (i + 1) (2 * tp + 1))) := JW.mk
  have hcb : CB (figP (pickP ns i (2 * 10 ^ Int.toNat 16)) d) 20 := CB.of_lt (by omega)
  by_cases hz : figP (pickP ns i (2 * 10 ^ Int.toNat 16)) d = 0
  · refine wpAny_call ?_
    k_dflt cell_enter
    k_steps
    exact retN_of (X := (0, 0)) hret (by k_asm) (by k_asm) (by k_mem) (by kcj_all) (allLt_of (by assumption)) (if_pos hz)
  · have hp : 0 < figP (pickP ns i (2 * 10 ^ Int.toNat 16)) d := by omega
    have hs0 := strip_pos (n := figP (pickP ns i (2 * 10 ^ Int.toNat 16)) d) 0 hp
    have hs1 := strip_le (n := figP (pickP ns i (2 * 10 ^ Int.toNat 16)) d) 0 hp
    have hs2 : (strip (figP (pickP ns i (2 * 10 ^ Int.toNat 16)) d) 0).1 < 10 ^ 10 := by omega
    have hs3 := text_ne hs0
    refine wpAny_call ?_
    k_dflt cell_enter
    k_steps
    · exact retN_of (X := (_, _)) hret (by k_asm) (by k_asm) (by k_mem) (by kcj_all) (allLt_of (by assumption)) (if_neg hz)
    · exact jpost (by k_asm) (by k_asm) (by kcj_all) rfl (fun y h => by simp only [if_neg h]) (if_pos (by assumption)).symm
    · exact jpost (by k_asm) (by k_asm) (by kcj_all) rfl (fun y h => by simp only [if_neg h]) (if_neg (by assumption)).symm
theorem pickP_range (ns : List Int) (i : Int) {m : Int} (hm : 0 < m) : 0 ≤ pickP ns i m ∧ pickP ns i m < m := by
  unfold pickP
  split
  · exact ⟨Int.fmod_nonneg_of_pos _ hm, Int.fmod_lt_of_pos _ hm⟩
  · omega
theorem leadP_range {w tp : Int} (h0 : 0 ≤ w) (h1 : w < 2 * tp + 1) : -tp ≤ leadP w ∧ leadP w ≤ tp := by
  unfold leadP
  rw [Int.fmod_eq_emod_of_nonneg _ (by decide), Int.fdiv_eq_ediv_of_nonneg _ (by decide), Int.fdiv_eq_ediv_of_nonneg _ (by decide)]
  split <;> omega
theorem lrealP_range {v w d tp : Int} (hd1 : 1 ≤ d) (hd9 : d ≤ 9) (ht0 : 3 ≤ tp) (ht1 : tp ≤ 40) (h0 : 0 ≤ w) (h1 : w < 2 * tp + 1) : CB (lrealP v w d).1 9 ∧ -60 ≤ (lrealP v w d).2 ∧ (lrealP v w d).2 ≤ 60 := by
  have hg0 := figP_ge v d
  have hg1 := figP_lt v hd9
  obtain ⟨l0, l1⟩ := leadP_range h0 h1
  unfold lrealP
  by_cases hz : figP v d = 0
  · rw [if_pos hz]
    exact ⟨CB.of_lt (by decide), by decide, by decide⟩
  · rw [if_neg hz]
    have hs0 := strip_pos (n := figP v d) 0 (by omega)
    have hs1 := strip_le (n := figP v d) 0 (by omega)
    have hc : CB (strip (figP v d) 0).1 9 := CB.of_lt (by omega)
    have hc0 := cd_nonneg (strip (figP v d) 0).1
    have hc1 : cd (strip (figP v d) 0).1 ≤ 9 := hc
    have e : v.fmod 2 = 0 ∨ v.fmod 2 = 1 := by
      rw [Int.fmod_eq_emod_of_nonneg _ (by decide)]; omega
    refine ⟨?_, ?_, ?_⟩
    · show CB ((1 - 2 * v.fmod 2) * (strip (figP v d) 0).1) 9
      rcases e with e | e <;> rw [e]
      · rw [show (1 - 2 * 0 : Int) = 1 by decide, Int.one_mul]; exact hc
      · rw [show (1 - 2 * 1 : Int) = -1 by decide, Int.neg_mul, Int.one_mul]; exact hc.neg
    · show -60 ≤ leadP w - _ + 1; omega
    · show leadP w - _ + 1 ≤ 60; omega
/-- a decimal of the law: what it is, and how great -/
abbrev RetA (news : Led) (x : Int × Int) (h₀ : Heap) (L : Addr) (m : Str → Option Value) (s : Shared) (Q : Value → Shared → Prop) : Prop :=
  ∀ x0 x1, x = (x0, x1) → CB x0 9 → -60 ≤ x1 → x1 ≤ 60 → RetN news (x0, x1) h₀ L m s Q
theorem ct_lrealA (news : Led) (D : Addr) (vs : List Value) (ns : List Int) (i d tp : Int) (c : Nat) (t1 t2 t3 : Tok) (hD : (D, W.listOf vs.toArray c) ∈ news) (hI : IntsAre vs ns) (hlen : ns.length ≤ 12) (hi0 : 0 ≤ i) (hd1 : 1 ≤ d) (hd9 : d ≤ 9) (ht0 : 3 ≤ tp) (ht1 : tp ≤ 40) :
    Ctr prog w p loose mean mg mb 195 8 news [.ref D, .int i t1, .int d t2, .int tp t3] (RetA news (lrealP (pickP ns i (2 * 10 ^ Int.toNat 16)) (pickP ns (i + 1) (2 * tp + 1)) d)) := by
  have C := ct_lreal (prog := prog) (w := w) (p := p) (loose := loose) (mean := mean) (mg := mg) (mb := mb) news D vs ns i d tp c t1 t2 t3 hD hI hlen hi0 hd1 hd9 ht0 ht1
  obtain ⟨w0, w1⟩ := pickP_range ns (i + 1) (m := 2 * tp + 1) (by omega)
  obtain ⟨r1, r2, r3⟩ := lrealP_range (v := pickP ns i (2 * 10 ^ Int.toNat 16)) hd1 hd9 ht0 ht1 w0 w1
  unfold Ctr at *
  intro dp un gd cn cs a ccd cl outer A₀ base h₀ L m s Q E B F X₀ N T hk hd hu hret
  exact C dp un gd cn cs a ccd cl outer A₀ base h₀ L m s Q E B F X₀ N T hk hd hu (hret _ _ rfl r1 r2 r3)
end
theorem cb_e1 {x : Int} (_ : -60 ≤ x) (h : x ≤ 60) : CB ((10 : Int) ^ (max 0 x).toNat) 61 := CB.le (CB.pow10 _) (by omega)
theorem cb_e2 {x : Int} (h : -60 ≤ x) (_ : x ≤ 60) : CB ((10 : Int) ^ (max 0 (-x)).toNat) 61 := CB.le (CB.pow10 _) (by omega)
end Mine

theorem Mine.lines_lreal : True := by
  k_with "call ref" => (k_here; (with_reducible show wpAny _ _ (call (Value.ref 195) _) _ _ _); k_dflt (refine' Mine.use_ctr (Mine.ct_lrealA _ _ _ _ _ _ _ _ _ _ _ ?kh1qq ?kh2qq ?kh3qq ?kh4qq ?kh5qq ?kh6qq ?kh7qq ?kh8qq) ?k1qq ?k2qq ?k3qq ?k4qq ?k5qq ?kKqq ?kdqq ?kuqq ?_; (case k1qq => k_asm); (case k2qq => k_asm); (case k3qq => k_asm); (case k4qq => k_asm); (case k5qq => k_asm); (case kKqq => first | exact rfl | assumption); (case kdqq => ktr_room); (case kuqq => ktr_units); (case kh1qq => k_extra "tb_rel"); (case kh2qq => with_reducible assumption); (case kh3qq => first | assumption | omega); (case kh4qq => first | assumption | omega | decide); (case kh5qq => first | assumption | omega); (case kh6qq => first | assumption | omega); (case kh7qq => first | assumption | omega); (case kh8qq => first | assumption | omega)); intro x09zz x19zz ex9zz ca9zz lo9zz hi9zz D9zz t9zz u9zz c9zz h9zz tk9zz F9zz N9zz l9zz; (try simp only [PySem.W.AllLt, and_true] at l9zz); (have cb9zz := Mine.CB.le ca9zz (show 9 ≤ 20 by decide)); (have ce9zz := Mine.cb_e1 lo9zz hi9zz); (have cf9zz := Mine.cb_e2 lo9zz hi9zz); (try dsimp only); (try k_fold); (try k_sweep))
  trivial

theorem Mine.off_pick3 : True := by
  w_top off
  trivial

namespace Mine
section
variable {prog : Program} {w : World} {p : Program} {loose : List Str} {mean : ExcName → Option Value} {mg mb : Str → Option Value}
abbrev RetIA (news : Led) (x b : Int) (h₀ : Heap) (L : Addr) (m : Str → Option Value) (s : Shared) (Q : Value → Shared → Prop) : Prop :=
  ∀ y, x = y → 0 ≤ y → y < b → CB y 45 → RetI news y h₀ L m s Q
theorem ct_pickA (news : Led) (D : Addr) (vs : List Value) (ns : List Int) (i mm : Int) (c : Nat) (t1 t2 : Tok) (hD : (D, W.listOf vs.toArray c) ∈ news) (hI : IntsAre vs ns) (hlen : ns.length ≤ 12) (hi0 : 0 ≤ i) (hm : 0 < mm) (hb : mm ≤ 10 ^ 45) :
    Ctr prog w p loose mean mg mb 173 4 news [.ref D, .int i t1, .int mm t2] (RetIA news (pickP ns i mm) mm) := by
  have C := ct_pick (prog := prog) (w := w) (p := p) (loose := loose) (mean := mean) (mg := mg) (mb := mb) news D vs ns i mm c t1 t2 hD hI hlen hi0 hm
  obtain ⟨w0, w1⟩ := pickP_range ns i hm
  unfold Ctr at *
  intro dp un gd cn cs a ccd cl outer A₀ base h₀ L m s Q E B F X₀ N T hk hd hu hret
  exact C dp un gd cn cs a ccd cl outer A₀ base h₀ L m s Q E B F X₀ N T hk hd hu (hret _ rfl w0 w1 (CB.of_lt (by omega)))
end
end Mine

theorem Mine.lines_pick3 : True := by
  k_with "call ref" => (k_here; (with_reducible show wpAny _ _ (call (Value.ref 173) _) _ _ _); k_dflt (refine' Mine.use_ctr (Mine.ct_pickA _ _ _ _ _ _ _ _ _ ?kh1qq ?kh2qq ?kh3qq ?kh4qq ?kh5qq ?kh6qq) ?k1qq ?k2qq ?k3qq ?k4qq ?k5qq ?kKqq ?kdqq ?kuqq ?_; (case k1qq => k_asm); (case k2qq => k_asm); (case k3qq => k_asm); (case k4qq => k_asm); (case k5qq => k_asm); (case kKqq => first | exact rfl | assumption); (case kdqq => ktr_room); (case kuqq => ktr_units); (case kh1qq => k_extra "tb_rel"); (case kh2qq => with_reducible assumption); (case kh3qq => first | assumption | omega); (case kh4qq => first | assumption | omega | decide); (case kh5qq => first | assumption | omega | decide); (case kh6qq => first | omega | decide)); intro y9zz ey9zz lo9zz hi9zz cb9zz t9zz h9zz tk9zz F9zz N9zz; (try dsimp only); (try k_fold); (try k_sweep))
  k_with "call ref" => (k_here; (with_reducible show wpAny _ _ (call (Value.ref 138) _) _ _ _); k_dflt (refine' Mine.use_ctr (Mine.ct_rcomp _ _ _ _ _ _ _ _ _ _ _ _ _ ?kXqq ?kYqq ?kh1qq ?kh2qq ?kh3qq ?kh4qq ?kh5qq ?kh6qq) ?k1qq ?k2qq ?k3qq ?k4qq ?k5qq ?kKqq ?kdqq ?kuqq ?_; (case k1qq => k_asm); (case k2qq => k_asm); (case k3qq => k_asm); (case k4qq => k_asm); (case k5qq => k_asm); (case kKqq => first | exact rfl | assumption); (case kdqq => ktr_room); (case kuqq => ktr_units); (case kXqq => k_extra "tb_rel"); (case kYqq => k_extra "tb_rel"); (case kh1qq => assumption); (case kh2qq => assumption); (case kh3qq => omega); (case kh4qq => omega); (case kh5qq => omega); (case kh6qq => omega)); intro t9zz h9zz tk9zz F9zz N9zz; (try dsimp only); (try k_fold); (try k_sweep))
  k_with "call ref" => (k_here; (with_reducible show wpAny _ _ (call (Value.ref 152) _) _ _ _); k_dflt (refine' Mine.use_ctr (Mine.ct_rtoi _ _ _ _ _ _ _ ?kXqq ?kh1qq ?kh3qq ?kh4qq) ?k1qq ?k2qq ?k3qq ?k4qq ?k5qq ?kKqq ?kdqq ?kuqq ?_; (case k1qq => k_asm); (case k2qq => k_asm); (case k3qq => k_asm); (case k4qq => k_asm); (case k5qq => k_asm); (case kKqq => first | exact rfl | assumption); (case kdqq => ktr_room); (case kuqq => ktr_units); (case kXqq => k_extra "tb_rel"); (case kh1qq => assumption); (case kh3qq => omega); (case kh4qq => omega)); intro t9zz h9zz tk9zz F9zz N9zz; (try dsimp only); (try k_fold); (try k_sweep))
  trivial

theorem Mine.off_optv : True := by
  w_top off
  trivial

namespace Mine
/-- None or a pair, as data -/
def optD : Option (Int × Int) → PyData
  | none => .none
  | some y => .tuple [.int y.1, .int y.2]
theorem optD_eqv (o o' : Option (Int × Int)) : PyData.eqv (optD o) (optD o') = decide (o = o') := by
  cases o with
  | none => cases o' <;> simp [optD, PyData.eqv]
  | some y =>
    cases o' with
    | none => simp [optD, PyData.eqv]
    | some z =>
      obtain ⟨a, b⟩ := y
      obtain ⟨c, d⟩ := z
      by_cases h1 : a = c <;> by_cases h2 : b = d <;> simp [optD, PyData.eqv, PyData.eqvAll, h1, h2]
theorem optD_shaped (o : Option (Int × Int)) : SeqAt.shaped (optD o) = true := by
  cases o with
  | none => rfl
  | some y => rfl
/-- the value is None or a pair of the ledger, or the written pair -/
def OptV (P : Params) (ext : Led) (v : Value) (o : Option (Int × Int)) : Prop := ∀ h : Heap, (Mine.hd.heap_1 P).In h → (∀ p ∈ ext, h.get? p.1 = some p.2) → Reads h v (optD o) []
theorem optV_none {P : Params} {o : Option (Int × Int)} (e : o = none) : OptV P [] .none o := fun h _ _ => by subst e; exact Reads.none
theorem optV_pair {P : Params} {o : Option (Int × Int)} {y : Int × Int} {D : Addr} {t1 t2 : Tok} {c : Nat} (e : o = some y) : OptV P [(D, pairObj y.1 y.2 t1 t2 c)] (.ref D) o := fun h _ hx => by
  subst e
  exact reads_tuple_at (hx _ (.head _)) rfl rfl (readsAll_cons_val (Reads.int _ _) (readsAll_cons_val (Reads.int _ _) .nil))
theorem optV_0 {P : Params} {o : Option (Int × Int)} {y : Int × Int} (e : o = some y) (e0 : y = (0, 0)) : OptV P [] (.ref 47) o := fun h X _ => by
  subst e e0
  exact reads_tuple_at (X 47 _ (by k_is)) rfl rfl (readsAll_cons_val (Reads.int _ _) (readsAll_cons_val (Reads.int _ _) .nil))
section
variable {prog : Program} {w : World} {p : Program} {loose : List Str} {mean : ExcName → Option Value} {mg mb : Str → Option Value}
abbrev RetV (w : World) (news : Led) (o : Option (Int × Int)) (An : Led → Heap → Prop → Prop) (s : Shared) (Q : Value → Shared → Prop) : Prop :=
  ∀ (v : Value) (ext : Led) (h' : Heap) (tk' : Nat), OptV w.params ext v o → An (ext ++ news) h' (Q v { s with heap := h', toks := tk' })
theorem heardV {f : Addr} {k : Nat} {news : Led} {vs : List Value} {o : Option (Int × Int)} (C : CtrS prog w p loose mean mg mb f k news vs (RetH news o)) : CtrS prog w p loose mean mg mb f k news vs (RetV w news o) := by
  unfold CtrS at *
  intro dp un gd cn cs a ccd cl outer A₀ base h₀ L m s Q E B F X₀ N T XB TB D hk hd hu hret
  refine C dp un gd cn cs a ccd cl outer A₀ base h₀ L m s Q E B F X₀ N T XB TB D hk hd hu ⟨fun ho h' tk' => hret _ _ h' tk' (optV_none ho), fun y ho => ⟨fun _ D t1 t2 c h' tk' _ => hret _ _ h' tk' (optV_pair ho), fun h0 h' tk' => hret _ _ h' tk' (optV_0 ho h0)⟩⟩
abbrev RetVL (w : World) (news : Led) (o : Option (Int × Int)) (h₀ : Heap) (L : Addr) (m : Str → Option Value) (s : Shared) (Q : Value → Shared → Prop) : Prop :=
  ∀ (v : Value) (ext : Led) (h' : Heap) (tk' : Nat), OptV w.params ext v o → Fr h₀ L h' m → News h₀ L h' (ext ++ news) → Q v { s with heap := h', toks := tk' }
theorem roundV {f : Addr} {k : Nat} {news : Led} {vs : List Value} {o : Option (Int × Int)} (C : Ctr prog w p loose mean mg mb f k news vs (RetON news o)) : Ctr prog w p loose mean mg mb f k news vs (RetVL w news o) := by
  unfold Ctr at *
  intro dp un gd cn cs a ccd cl outer A₀ base h₀ L m s Q E B F X₀ N T hk hd hu hret
  exact C dp un gd cn cs a ccd cl outer A₀ base h₀ L m s Q E B F X₀ N T hk hd hu ⟨fun ho h' tk' F' N' => hret _ _ h' tk' (optV_none ho) F' N', fun y ho D t1 t2 c h' tk' F' N' _ => hret _ _ h' tk' (optV_pair ho) F' N'⟩
/-- two such values compared -/
theorem eqV {A : Around} {E : Value → Shared → Prop} {s : Shared} {h₀ : Heap} {L : Addr} {m : Str → Option Value} {news e e' : Led} {v v' : Value} {o o' : Option (Int × Int)} {Q : Value → Shared → Prop} (O : OptV w.params e v o) (O' : OptV w.params e' v' o') (F : Fr h₀ L s.heap m) (X : (Mine.hd.heap_1 w.params).In h₀) (N : News h₀ L s.heap news)
    (he : ∀ p ∈ e, p ∈ news) (he' : ∀ p ∈ e', p ∈ news) (hu : A.units + 64 < cLine) (h : Q (.bool (decide (o = o'))) s) : wpAny (model prog w) A (compareOp .Eq v v') Q E s :=
  eq_dataH (O s.heap (X.keeps F.keep) fun p hp => (N p (he p hp)).1) (O' s.heap (X.keeps F.keep) fun p hp => (N p (he' p hp)).1) (optD_shaped o) (optD_shaped o') hu (by rw [optD_eqv]; exact h)
theorem neV {A : Around} {E : Value → Shared → Prop} {s : Shared} {h₀ : Heap} {L : Addr} {m : Str → Option Value} {news e e' : Led} {v v' : Value} {o o' : Option (Int × Int)} {Q : Value → Shared → Prop} (O : OptV w.params e v o) (O' : OptV w.params e' v' o') (F : Fr h₀ L s.heap m) (X : (Mine.hd.heap_1 w.params).In h₀) (N : News h₀ L s.heap news)
    (he : ∀ p ∈ e, p ∈ news) (he' : ∀ p ∈ e', p ∈ news) (hu : A.units + 64 < cLine) (h : Q (.bool (!decide (o = o'))) s) : wpAny (model prog w) A (compareOp .NotEq v v') Q E s :=
  ne_dataH (O s.heap (X.keeps F.keep) fun p hp => (N p (he p hp)).1) (O' s.heap (X.keeps F.keep) fun p hp => (N p (he' p hp)).1) (optD_shaped o) (optD_shaped o') hu (by rw [optD_eqv]; exact h)
theorem use_ctrV {f : Addr} {k : Nat} {news : Led} {vs : List Value} {o : Option (Int × Int)} {dp un : Nat} {gd : Option (List Code)} {cn : Str} {cs : Scope} {a : Addr} {ccd : Value} {cl : List (Str × Addr)} {outer : List Env} {A₀ : Around} {base h₀ : Heap} {L : Addr} {m : Str → Option Value} {s : Shared} {Q E : Value → Shared → Prop}
    (C : CtrS prog w p loose mean mg mb f k news vs (RetH news o)) (B : Below A₀ base outer h₀) (F : Fr h₀ L s.heap m) (X : (Mine.hd.heap_1 w.params).In h₀) (N : News h₀ L s.heap news) (T : Top p loose mean mg mb h₀) (XB : (Mine.hd.heap_1 w.params).In base) (TB : Top p loose mean mg mb base) (D : KtsDicts (outer.filterMap (·.frame)) h₀) (hk : cs.kind = .function) (hd : dp + k < recursionLimit) (hu : un + 8 * k < cLine)
    (hp : ∀ (v : Value) (ext : Led) (h' : Heap) (tk' : Nat) (h₀' : Heap), OptV w.params ext v o → KtsTurn (outer.filterMap (·.frame)) h₀ h₀' → Fr h₀' L h' m → News h₀' L h' (ext ++ news) → Below A₀ base outer h₀' → (Mine.hd.heap_1 w.params).In h₀' → Top p loose mean mg mb h₀' → KtsDicts (outer.filterMap (·.frame)) h₀' → Q v { s with heap := h', toks := tk' }) :
    wpAny (model prog w) (ktrTop dp un gd cn cs L a ccd cl outer) (call (.ref f) vs) Q E s :=
  use_ctrS (heardV C) B F X N T XB TB D hk hd hu fun v ext h' tk' O h₀' => hp v ext h' tk' h₀' O
theorem isV {A : Around} {E : Value → Shared → Prop} {s : Shared} {h₀ : Heap} {L : Addr} {m : Str → Option Value} {news e : Led} {v : Value} {o : Option (Int × Int)} {Q : Value → Shared → Prop} (O : OptV w.params e v o) (F : Fr h₀ L s.heap m) (X : (Mine.hd.heap_1 w.params).In h₀) (N : News h₀ L s.heap news)
    (he : ∀ p ∈ e, p ∈ news) (eo : o = none) (h : wpAny (model prog w) A (compareOp .Is .none .none) Q E s) : wpAny (model prog w) A (compareOp .Is v .none) Q E s := by
  have r := O s.heap (X.keeps F.keep) fun p hp => (N p (he p hp)).1
  subst eo
  have e : v = .none := by unfold optD at r; cases r; rfl
  rw [e]; exact h
/-- the statement a = .. * (.. if .. else ..) is one way -/
theorem join_mul {A : Around} {E : Value → Shared → Prop} {Q : Flow → Shared → Prop} {s : Shared} {env : Env} {h₀ : Heap} {L : Addr} {l t b o : Expr} {p1 p2 p3 pos : Pos} {m₀ : Str → Option Value} {news : Led} {x : Str} {R : Int} (_ : JW x R)
    (F : Fr h₀ L s.heap m₀) (N : News h₀ L s.heap news) (h1 : wpAny (model prog w) A (exec (.Assign [.Name x p1] (.BinOp l .Mult (.IfExp t b o p3) p2) pos) env) (JPost h₀ L s m₀ news x R) E s)
    (h2 : ∀ h' tk t', Fr h₀ L h' (fun y => if y = x then some (.int R t') else m₀ y) → News h₀ L h' news → Q .next { s with heap := h', toks := tk }) : wpAny (model prog w) A (exec (.Assign [.Name x p1] (.BinOp l .Mult (.IfExp t b o p3) p2) pos) env) Q E s := join_st F N h1 h2
end
end Mine

theorem Mine.lines_optv : True := by
  k_with "call ref" => (k_here; (with_reducible show wpAny _ _ (call (Value.ref 202) (Value.int 0 _ :: _)) _ _ _); k_dflt (refine' Mine.use_ctrV (Mine.ct_heard0 _ _ _ _ _ _ _ _ _ _ _ _ _ _ _ _ _ _ ?kXqq ?kYqq ?kh1qq ?kh2qq ?kh3qq ?kh4qq ?kh5qq ?kh6qq ?kh7qq ?kh8qq) ?k1qq ?k2qq ?k3qq ?k4qq ?k5qq ?kXBqq ?kTBqq ?kDDqq ?kKqq ?kdqq ?kuqq ?_; (case k1qq => k_asm); (case k2qq => k_asm); (case k3qq => k_asm); (case k4qq => k_asm); (case k5qq => k_asm); (case kXBqq => assumption); (case kTBqq => assumption); (case kDDqq => first | assumption | exact ktsDicts_nil); (case kKqq => first | exact rfl | assumption); (case kdqq => ktr_room); (case kuqq => ktr_units); (case kXqq => k_extra "tb_rel"); (case kYqq => k_extra "tb_rel"); (case kh1qq => first | assumption | omega); (case kh2qq => first | assumption | omega); (case kh3qq => first | assumption | omega); (case kh4qq => first | assumption | omega); (case kh5qq => first | assumption | omega); (case kh6qq => first | assumption | omega); (case kh7qq => first | assumption | omega); (case kh8qq => first | assumption | omega)); intro v9zz ext9zz h9zz tk9zz g9zz O9zz T9zz F9zz N9zz B9zz X9zz P9zz K9zz; (try dsimp only); (try k_fold); (try k_sweep))
  k_with "call ref" => (k_here; (with_reducible show wpAny _ _ (call (Value.ref 202) (Value.int 1 _ :: _)) _ _ _); k_dflt (refine' Mine.use_ctrV (Mine.ct_heard1 _ _ _ _ _ _ _ _ _ _ _ _ _ _ _ _ _ _ ?kXqq ?kYqq ?kh1qq ?kh2qq ?kh3qq ?kh4qq ?kh5qq ?kh6qq ?kh7qq ?kh8qq) ?k1qq ?k2qq ?k3qq ?k4qq ?k5qq ?kXBqq ?kTBqq ?kDDqq ?kKqq ?kdqq ?kuqq ?_; (case k1qq => k_asm); (case k2qq => k_asm); (case k3qq => k_asm); (case k4qq => k_asm); (case k5qq => k_asm); (case kXBqq => assumption); (case kTBqq => assumption); (case kDDqq => first | assumption | exact ktsDicts_nil); (case kKqq => first | exact rfl | assumption); (case kdqq => ktr_room); (case kuqq => ktr_units); (case kXqq => k_extra "tb_rel"); (case kYqq => k_extra "tb_rel"); (case kh1qq => first | assumption | omega); (case kh2qq => first | assumption | omega); (case kh3qq => first | assumption | omega); (case kh4qq => first | assumption | omega); (case kh5qq => first | assumption | omega); (case kh6qq => first | assumption | omega); (case kh7qq => first | assumption | omega); (case kh8qq => first | assumption | omega)); intro v9zz ext9zz h9zz tk9zz g9zz O9zz T9zz F9zz N9zz B9zz X9zz P9zz K9zz; (try dsimp only); (try k_fold); (try k_sweep))
  k_with "call ref" => (k_here; (with_reducible show wpAny _ _ (call (Value.ref 202) (Value.int 2 _ :: _)) _ _ _); k_dflt (refine' Mine.use_ctrV (Mine.ct_heard2 _ _ _ _ _ _ _ _ _ _ _ _ _ _ _ _ _ _ ?kXqq ?kYqq ?kh1qq ?kh2qq ?kh3qq ?kh4qq ?kh5qq ?kh6qq ?kh7qq ?kh8qq) ?k1qq ?k2qq ?k3qq ?k4qq ?k5qq ?kXBqq ?kTBqq ?kDDqq ?kKqq ?kdqq ?kuqq ?_; (case k1qq => k_asm); (case k2qq => k_asm); (case k3qq => k_asm); (case k4qq => k_asm); (case k5qq => k_asm); (case kXBqq => assumption); (case kTBqq => assumption); (case kDDqq => first | assumption | exact ktsDicts_nil); (case kKqq => first | exact rfl | assumption); (case kdqq => ktr_room); (case kuqq => ktr_units); (case kXqq => k_extra "tb_rel"); (case kYqq => k_extra "tb_rel"); (case kh1qq => first | assumption | omega); (case kh2qq => first | assumption | omega); (case kh3qq => first | assumption | omega); (case kh4qq => first | assumption | omega); (case kh5qq => first | assumption | omega); (case kh6qq => first | assumption | omega); (case kh7qq => first | assumption | omega); (case kh8qq => first | assumption | omega)); intro v9zz ext9zz h9zz tk9zz g9zz O9zz T9zz F9zz N9zz B9zz X9zz P9zz K9zz; (try dsimp only); (try k_fold); (try k_sweep))
  k_with "call ref" => (k_here; (with_reducible show wpAny _ _ (call (Value.ref 202) (Value.int 3 _ :: _)) _ _ _); k_dflt (refine' Mine.use_ctrV (Mine.ct_heard3 _ _ _ _ _ _ _ _ _ _ _ _ _ _ _ _ _ _ ?kXqq ?kYqq ?kh1qq ?kh2qq ?kh3qq ?kh4qq ?kh5qq ?kh6qq ?kh7qq ?kh8qq) ?k1qq ?k2qq ?k3qq ?k4qq ?k5qq ?kXBqq ?kTBqq ?kDDqq ?kKqq ?kdqq ?kuqq ?_; (case k1qq => k_asm); (case k2qq => k_asm); (case k3qq => k_asm); (case k4qq => k_asm); (case k5qq => k_asm); (case kXBqq => assumption); (case kTBqq => assumption); (case kDDqq => first | assumption | exact ktsDicts_nil); (case kKqq => first | exact rfl | assumption); (case kdqq => ktr_room); (case kuqq => ktr_units); (case kXqq => k_extra "tb_rel"); (case kYqq => k_extra "tb_rel"); (case kh1qq => first | assumption | omega); (case kh2qq => first | assumption | omega); (case kh3qq => first | assumption | omega); (case kh4qq => first | assumption | omega); (case kh5qq => first | assumption | omega); (case kh6qq => first | assumption | omega); (case kh7qq => first | assumption | omega); (case kh8qq => first | assumption | omega)); intro v9zz ext9zz h9zz tk9zz g9zz O9zz T9zz F9zz N9zz B9zz X9zz P9zz K9zz; (try dsimp only); (try k_fold); (try k_sweep))
  k_with "call ref" => (k_here; (with_reducible show wpAny _ _ (call (Value.ref 202) (Value.int 4 _ :: _)) _ _ _); k_dflt (refine' Mine.use_ctrV (Mine.ct_heard4 _ _ _ _ _ _ _ _ _ _ _ _ _ _ ?kXqq ?kh1qq ?kh2qq ?kh3qq ?kh4qq ?kh5qq) ?k1qq ?k2qq ?k3qq ?k4qq ?k5qq ?kXBqq ?kTBqq ?kDDqq ?kKqq ?kdqq ?kuqq ?_; (case k1qq => k_asm); (case k2qq => k_asm); (case k3qq => k_asm); (case k4qq => k_asm); (case k5qq => k_asm); (case kXBqq => assumption); (case kTBqq => assumption); (case kDDqq => first | assumption | exact ktsDicts_nil); (case kKqq => first | exact rfl | assumption); (case kdqq => ktr_room); (case kuqq => ktr_units); (case kXqq => k_extra "tb_rel"); (case kh1qq => first | assumption | omega); (case kh2qq => first | assumption | omega); (case kh3qq => first | assumption | omega); (case kh4qq => first | assumption | omega); (case kh5qq => first | assumption | omega)); intro v9zz ext9zz h9zz tk9zz g9zz O9zz T9zz F9zz N9zz B9zz X9zz P9zz K9zz; (try dsimp only); (try k_fold); (try k_sweep))
  k_with "call ref" => (k_here; (with_reducible show wpAny _ _ (call (Value.ref 202) (Value.int 5 _ :: _)) _ _ _); k_dflt (refine' Mine.use_ctrV (Mine.ct_heard5 _ _ _ _ _ _ _ _ _ ?kh1qq ?kh2qq) ?k1qq ?k2qq ?k3qq ?k4qq ?k5qq ?kXBqq ?kTBqq ?kDDqq ?kKqq ?kdqq ?kuqq ?_; (case k1qq => k_asm); (case k2qq => k_asm); (case k3qq => k_asm); (case k4qq => k_asm); (case k5qq => k_asm); (case kXBqq => assumption); (case kTBqq => assumption); (case kDDqq => first | assumption | exact ktsDicts_nil); (case kKqq => first | exact rfl | assumption); (case kdqq => ktr_room); (case kuqq => ktr_units); (case kh1qq => first | assumption | (refine' Mine.CB.le ?cbaqq ?cbbqq; (case cbaqq => k_extra "tb_start"); (case cbbqq => omega))); (case kh2qq => first | assumption | omega)); intro v9zz ext9zz h9zz tk9zz g9zz O9zz T9zz F9zz N9zz B9zz X9zz P9zz K9zz; (try dsimp only); (try k_fold); (try k_sweep))
  k_with "call ref" => (k_here; (with_reducible show wpAny _ _ (call (Value.ref 202) (Value.int 6 _ :: _)) _ _ _); k_dflt (refine' Mine.use_ctrV (Mine.ct_heard6 _ _ _ _ _ _ _ _ _ _ ?kh1qq ?kh2qq) ?k1qq ?k2qq ?k3qq ?k4qq ?k5qq ?kXBqq ?kTBqq ?kDDqq ?kKqq ?kdqq ?kuqq ?_; (case k1qq => k_asm); (case k2qq => k_asm); (case k3qq => k_asm); (case k4qq => k_asm); (case k5qq => k_asm); (case kXBqq => assumption); (case kTBqq => assumption); (case kDDqq => first | assumption | exact ktsDicts_nil); (case kKqq => first | exact rfl | assumption); (case kdqq => ktr_room); (case kuqq => ktr_units); (case kh1qq => first | assumption | (refine' Mine.CB.le ?cbaqq ?cbbqq; (case cbaqq => k_extra "tb_start"); (case cbbqq => omega))); (case kh2qq => first | assumption | omega)); intro v9zz ext9zz h9zz tk9zz g9zz O9zz T9zz F9zz N9zz B9zz X9zz P9zz K9zz; (try dsimp only); (try k_fold); (try k_sweep))
  k_with "call ref" => (k_here; (with_reducible show wpAny _ _ (call (Value.ref 181) [_, _, _, _, _]) _ _ _); k_dflt (refine' Mine.use_ctr (Mine.roundV (Mine.ct_lround5 _ _ _ _ _ _ _ _ _ _ _ ?kh1qq ?kh2qq ?kh3qq ?kh4qq ?kh5qq)) ?k1qq ?k2qq ?k3qq ?k4qq ?k5qq ?kKqq ?kdqq ?kuqq ?_; (case k1qq => k_asm); (case k2qq => k_asm); (case k3qq => k_asm); (case k4qq => k_asm); (case k5qq => k_asm); (case kKqq => first | exact rfl | assumption); (case kdqq => ktr_room); (case kuqq => ktr_units); (case kh1qq => (refine' Mine.CB.le ?cbaqq ?cbbqq; (case cbaqq => k_extra "tb_start"); (case cbbqq => omega))); (case kh2qq => (refine' Mine.CB.le ?cbcqq ?cbdqq; (case cbcqq => k_extra "tb_start"); (case cbdqq => omega))); (case kh3qq => k_extra "ktr_rel"); (case kh4qq => first | assumption | omega); (case kh5qq => first | assumption | omega)); intro v9zz ext9zz h9zz tk9zz O9zz F9zz N9zz; (try dsimp only); (try k_fold); (try k_sweep))
  k_with "call ref" => (k_here; (with_reducible show wpAny _ _ (call (Value.ref 181) [_, _, _, _]) _ _ _); k_dflt (refine' Mine.use_ctr (Mine.roundV (Mine.ct_lround4 _ _ _ _ _ _ _ _ _ ?kh1qq ?kh2qq ?kh3qq ?kh4qq ?kh5qq)) ?k1qq ?k2qq ?k3qq ?k4qq ?k5qq ?kKqq ?kdqq ?kuqq ?_; (case k1qq => k_asm); (case k2qq => k_asm); (case k3qq => k_asm); (case k4qq => k_asm); (case k5qq => k_asm); (case kKqq => first | exact rfl | assumption); (case kdqq => ktr_room); (case kuqq => ktr_units); (case kh1qq => (refine' Mine.CB.le ?cbaqq ?cbbqq; (case cbaqq => k_extra "tb_start"); (case cbbqq => omega))); (case kh2qq => (refine' Mine.CB.le ?cbcqq ?cbdqq; (case cbcqq => k_extra "tb_start"); (case cbdqq => omega))); (case kh3qq => k_extra "ktr_rel"); (case kh4qq => first | assumption | omega); (case kh5qq => first | assumption | omega)); intro v9zz ext9zz h9zz tk9zz O9zz F9zz N9zz; (try dsimp only); (try k_fold); (try k_sweep))
  k_with "exec Assign" => (k_here; (with_reducible show wpAny _ _ (exec (Stmt.Assign [Expr.Name _ _] (Expr.BinOp _ Operator.Mult (Expr.IfExp _ _ _ _) _) _) _) _ _ _); (fail_if_success (with_reducible show wpAny _ _ _ (Mine.JPost _ _ _ _ _ _ _) _ _)); k_dflt (refine' Mine.join_mul ?kwqq ?k1qq ?k2qq ?_ ?_; (case kwqq => assumption); (case k1qq => k_asm); (case k2qq => k_asm)); (all_goals skip); rotate_left; (focus ((intro hzz' tkzz' tzz' Fzz' Nzz'); (try k_sweep))))
  k_with "exec Assign cons BinOp" => (k_here; (with_reducible show wpAny _ _ (exec (Stmt.Assign [Expr.Name _ _] (Expr.BinOp _ Operator.Mult (Expr.IfExp _ _ _ _) _) _) _) _ _ _); (fail_if_success (with_reducible show wpAny _ _ _ (Mine.JPost _ _ _ _ _ _ _) _ _)); k_dflt (refine' Mine.join_mul ?kwqq ?k1qq ?k2qq ?_ ?_; (case kwqq => assumption); (case k1qq => k_asm); (case k2qq => k_asm)); (all_goals skip); rotate_left; (focus ((intro hzz' tkzz' tzz' Fzz' Nzz'); (try k_sweep))))
  k_with "compareOp Eq" => (k_here; k_dflt (refine' Mine.eqV ?kOqq ?kPqq ?k1qq ?k2qq ?k3qq ?keqq ?kfqq ?kuqq ?_; (case kOqq => with_reducible assumption); (case kPqq => with_reducible assumption); (case k1qq => k_asm); (case k2qq => k_asm); (case k3qq => k_asm); (case keqq => (intro p9zz h9zz; repeat (first | exact List.mem_append_left _ h9zz | exact h9zz | apply List.mem_append_right | apply List.mem_cons_of_mem | exact List.mem_cons_self))); (case kfqq => (intro p9zz h9zz; repeat (first | exact List.mem_append_left _ h9zz | exact h9zz | apply List.mem_append_right | apply List.mem_cons_of_mem | exact List.mem_cons_self))); (case kuqq => ktr_units)))
  k_with "compareOp NotEq" => (k_here; k_dflt (refine' Mine.neV ?kOqq ?kPqq ?k1qq ?k2qq ?k3qq ?keqq ?kfqq ?kuqq ?_; (case kOqq => with_reducible assumption); (case kPqq => with_reducible assumption); (case k1qq => k_asm); (case k2qq => k_asm); (case k3qq => k_asm); (case keqq => (intro p9zz h9zz; repeat (first | exact List.mem_append_left _ h9zz | exact h9zz | apply List.mem_append_right | apply List.mem_cons_of_mem | exact List.mem_cons_self))); (case kfqq => (intro p9zz h9zz; repeat (first | exact List.mem_append_left _ h9zz | exact h9zz | apply List.mem_append_right | apply List.mem_cons_of_mem | exact List.mem_cons_self))); (case kuqq => ktr_units)))
  k_with "tb_rel" => with_reducible (repeat (first | assumption | exact List.mem_cons_self | apply List.mem_append_right | apply List.mem_cons_of_mem))
  k_with "compareOp Is" => (k_here; k_dflt (refine' Mine.isV ?kOqq ?k1qq ?k2qq ?k3qq ?keqq ?kzqq ?_; (case kOqq => with_reducible assumption); (case k1qq => k_asm); (case k2qq => k_asm); (case k3qq => k_asm); (case keqq => (intro p9zz h9zz; repeat (first | exact List.mem_append_left _ h9zz | exact h9zz | apply List.mem_append_right | apply List.mem_cons_of_mem | exact List.mem_cons_self))); (case kzqq => assumption)))
  trivial

theorem Mine.off_pr2 : True := by
  w_top off
  trivial

namespace Mine
theorem cb_powA {x0 n : Int} (hx : CB x0 9) (hn : n ≤ 130) : CB (powA x0 n) 1250 := by
  unfold powA
  refine (CB.mul (hx.pow (max 0 n).toNat) (CB.of_lt (k := 20) ?_)).le ?_
  · split <;> decide
  · omega
theorem cb_powB {x0 n : Int} (hx : CB x0 9) (hn : -130 ≤ n) : CB (powB x0 n) 1250 := by
  unfold powB
  refine ((cb_natAbs hx).pow (max 0 (-n)).toNat).le ?_
  omega
theorem powB_gt {x0 n : Int} (h : ¬ (n < 0 ∧ x0 = 0)) : 0 < powB x0 n := by
  unfold powB
  by_cases hx : x0 = 0
  · rw [show (max 0 (-n)).toNat = 0 by omega, Int.pow_zero]; decide
  · exact Int.pow_pos (by omega)
section
variable {prog : Program} {w : World} {p : Program} {loose : List Str} {mean : ExcName → Option Value} {mg mb : Str → Option Value}
/-- it answers True -/
abbrev RetT (news : Led) (An : Led → Heap → Prop → Prop) (s : Shared) (Q : Value → Shared → Prop) : Prop :=
  ∀ (h' : Heap) (tk' : Nat), An news h' (Q (.bool true) { s with heap := h', toks := tk' })
theorem retT_of {h₀ kg h' : Heap} {A₀ : Around} {base : Heap} {outer : List Env} {L : Addr} {m : Str → Option Value} {news news' : Led} {s : Shared} {Q : Value → Shared → Prop} {tk' : Nat} {b : Bool}
    (R : RetT news (fun n h' X => Anew w p loose mean mg mb A₀ base outer h₀ L m h' n X) s Q) (T : KtsTurn (outer.filterMap (·.frame)) h₀ kg) (F : Fr kg L h' m) (N : News kg L h' news') (hs : ∀ p ∈ news, p ∈ news') (B : Below A₀ base outer kg) (X : (Mine.hd.heap_1 w.params).In kg) (P : Top p loose mean mg mb kg) (D : KtsDicts (outer.filterMap (·.frame)) kg) (e : b = true) :
    Q (.bool b) { s with heap := h', toks := tk' } := by
  subst e; exact R h' tk' kg T F (fun p hp => N p (hs p hp)) B X P D
set_option maxHeartbeats 4000000 in
theorem ct_prnone (news : Led) (X : Addr) (x0 x1 n d tp : Int) (t1 t2 u1 v q : Tok) (c : Nat) (hX : (X, pairObj x0 x1 t1 t2 c) ∈ news) (hx : CB x0 9) (hn0 : -200 ≤ n) (hneg : n < 0) (hz : x0 = 0) (hd1 : 1 ≤ d) (hd9 : d ≤ 9) :
    CtrS prog w p loose mean mg mb 209 40 news [.ref X, .int n u1, .int d v, .int tp q] (RetT news) := by
  subst hz
  unfold CtrS
  intro dp un gd cn cs a ccd cl outer A₀ base h₀ L m s Q E B F X₀ N T XB TB D hk hd hu hret
  have hlaw : rpowP 0 x1 n d tp = none := if_pos ⟨hneg, rfl⟩
  refine wpAny_call ?_
  k_dflt (refine' enter_try ?k1 ?k2 ?k3 ?k4 ?k5 ?XB ?TB ?D ?kA ?kF ?kK ?k6 ?k7 ?k8 ?k9 ?kB ?_ ?c2 ?c3 ?c4 ?c5; (case kA => exact rfl); (case kF => exact rfl); (case kK => assumption); (case k2 => k_asm); (case k1 => k_asm); (case XB => assumption); (case TB => assumption); (case D => assumption); (case k3 => k_asm); (case k4 => k_asm); (case k5 => k_asm); (case k6 => k_is); (case k7 => k_is); (case k8 => ktr_room); (case k9 => exact BindsTo.of_eq rfl); (case kB => exact locs rfl); (case c2 => exact rfl); (case c3 => exact rfl); (case c4 => exact rfl); (case c5 => decide); k_whole; intro g' L' h' FG' F' N' B' X' T' D'; (try dsimp only); (try k_lift B'); (try k_fold))
  k_steps
  all_goals first
    | exact retT_of hret (by assumption) (by k_asm) (by k_asm) (by intro p9 h9; repeat (first | exact h9 | apply List.mem_append_right | apply List.mem_cons_of_mem)) (by assumption) (by assumption) (by assumption) (by assumption) rfl
set_option maxHeartbeats 4000000 in
theorem ct_prnear (news : Led) (X : Addr) (x0 x1 n d tp : Int) (t1 t2 u1 v q : Tok) (c : Nat) (hX : (X, pairObj x0 x1 t1 t2 c) ∈ news) (hx : CB x0 9) (hxl : -60 ≤ x1) (hxh : x1 ≤ 60) (hn0 : -64 ≤ n) (hn1 : n ≤ 64) (hnz : ¬ (n < 0 ∧ x0 = 0)) (hd1 : 1 ≤ d) (hd9 : d ≤ 9) (ht0 : 3 ≤ tp) (ht1 : tp ≤ 40) :
    CtrS prog w p loose mean mg mb 209 40 news [.ref X, .int n u1, .int d v, .int tp q] (RetT news) := by
  unfold CtrS
  intro dp un gd cn cs a ccd cl outer A₀ base h₀ L m s Q E B F X₀ N T XB TB D hk hd hu hret
  have hlaw := law_near (x0 := x0) (x1 := x1) (n := n) (d := d) (tp := tp) hd1 (by omega) (by omega) (by omega)
  rw [if_neg hnz] at hlaw
  have hx64 : x0.natAbs < 2 ^ 64 := by have := hx.lt; omega
  have hx65 : ((x0.natAbs : Nat) : Int).natAbs < 2 ^ 64 := by rw [Int.natAbs_natCast]; exact hx64
  have hJ : JW (Str.ofString "a") (powA x0 n) := JW.mk
  have hA : CB (powA x0 n) 1250 := cb_powA hx (by omega)
  have hB : CB (powB x0 n) 1250 := cb_powB hx (by omega)
  have hB0 : 0 < powB x0 n := powB_gt hnz
  refine wpAny_call ?_
  k_dflt (refine' enter_try ?k1 ?k2 ?k3 ?k4 ?k5 ?XB ?TB ?D ?kA ?kF ?kK ?k6 ?k7 ?k8 ?k9 ?kB ?_ ?c2 ?c3 ?c4 ?c5; (case kA => exact rfl); (case kF => exact rfl); (case kK => assumption); (case k2 => k_asm); (case k1 => k_asm); (case XB => assumption); (case TB => assumption); (case D => assumption); (case k3 => k_asm); (case k4 => k_asm); (case k5 => k_asm); (case k6 => k_is); (case k7 => k_is); (case k8 => ktr_room); (case k9 => exact BindsTo.of_eq rfl); (case kB => exact locs rfl); (case c2 => exact rfl); (case c3 => exact rfl); (case c4 => exact rfl); (case c5 => decide); k_whole; intro g' L' h' FG' F' N' B' X' T' D'; (try dsimp only); (try k_lift B'); (try k_fold))
  k_steps
  all_goals first
    | exact absurd ⟨by assumption, by assumption⟩ hnz
    | exact retT_of hret (by assumption) (by k_asm) (by k_asm) (by intro p9 h9; repeat (first | exact h9 | apply List.mem_append_right | apply List.mem_cons_of_mem)) (by assumption) (by assumption) (by assumption) (by assumption) (by rw [hlaw]; exact decide_eq_true rfl)
    | exact jpost (by k_asm) (by k_asm) (by kcj_all) rfl (fun y h => by simp only [if_neg h]) (by unfold powA; rw [if_pos ⟨by assumption, by assumption, by assumption⟩])
    | exact jpost (by k_asm) (by k_asm) (by kcj_all) rfl (fun y h => by simp only [if_neg h]) (by unfold powA; rw [if_neg (by rintro ⟨_, _, _⟩; contradiction)])
end
end Mine


namespace Mine
abbrev tz (e : Int) : Rat := (10 : Rat) ^ e
theorem tz_pos (e : Int) : 0 < tz e := Rat.zpow_pos (by decide)
theorem tz_add (e f : Int) : tz (e + f) = tz e * tz f := Rat.zpow_add (by decide) e f
theorem tz_zero : tz 0 = 1 := Rat.zpow_zero _
theorem tz_one : tz 1 = 10 := Rat.zpow_one _
theorem tz_nat (k : Nat) : tz (k : Int) = (10 : Rat) ^ k := Rat.zpow_natCast _ _
theorem tz_succ (e : Int) : tz (e + 1) = tz e * 10 := by rw [tz_add, tz_one]
theorem tz_toNat (x : Int) : (10 : Rat) ^ x.toNat = tz x * (10 : Rat) ^ (-x).toNat := by
  rw [← tz_nat, ← tz_nat, ← tz_add]; congr 1; omega
theorem one_le_tz (k : Nat) : 1 ≤ tz (k : Int) := by
  induction k with
  | zero => rw [show ((0 : Nat) : Int) = 0 from rfl, tz_zero]; decide
  | succ k ih =>
    rw [show ((k + 1 : Nat) : Int) = (k : Int) + 1 by omega, tz_succ]
    grind
theorem tz_mono {e f : Int} (h : e ≤ f) : tz e ≤ tz f := by
  obtain ⟨k, rfl⟩ : ∃ k : Nat, f = e + k := ⟨(f - e).toNat, by omega⟩
  rw [tz_add]
  have h1 := one_le_tz k
  have h2 := tz_pos e
  have := Rat.mul_le_mul_of_nonneg_left h1 (Rat.le_of_lt h2)
  grind
theorem tz_lt {e f : Int} (h : tz e < tz f) : e < f := by
  refine Int.not_le.mp fun h' => ?_
  have := tz_mono h'
  grind
theorem rne_half {A B : Nat} (hB : 0 < B) : 2 * (B * rne A B) ≤ 2 * A + B ∧ 2 * A ≤ 2 * (B * rne A B) + B := by
  have h1 := Nat.div_add_mod A B
  have h2 := Nat.mod_lt A hB
  unfold rne
  generalize A / B = q at *
  generalize A % B = r at *
  split
  · rw [Nat.mul_add, Nat.mul_one]; omega
  · rw [Nat.add_zero]; omega
theorem natR_le {a b : Nat} (h : a ≤ b) : (a : Rat) ≤ (b : Rat) := Rat.natCast_le_natCast.mpr h
theorem natR_lt {a b : Nat} (h : a < b) : (a : Rat) < (b : Rat) := Rat.natCast_lt_natCast.mpr h
theorem natR_pos {a : Nat} (h : 0 < a) : (0 : Rat) < (a : Rat) := Rat.natCast_pos.mpr h
theorem p10R (k : Nat) : (0 : Rat) < (10 : Rat) ^ k := Rat.pow_pos (by decide)
theorem ten_cast : ((10 : Nat) : Rat) = 10 := rfl
/-- the row is within a half -/
theorem row_rat {A B : Nat} {d l : Int} (hB : 0 < B) : 2 * (rowN A B d l : Rat) * B ≤ 2 * A * tz (d - 1 - l) + B ∧ 2 * A * tz (d - 1 - l) ≤ 2 * (rowN A B d l : Rat) * B + B := by
  have hB' : 0 < B * 10 ^ (-(d - 1 - l)).toNat := Nat.mul_pos hB (p10_pos _)
  obtain ⟨h1, h2⟩ := rne_half (A := A * 10 ^ (d - 1 - l).toNat) hB'
  have e : rne (A * 10 ^ (d - 1 - l).toNat) (B * 10 ^ (-(d - 1 - l)).toNat) = rowN A B d l := rfl
  rw [e] at h1 h2
  have g1 := natR_le h1
  have g2 := natR_le h2
  simp only [Rat.natCast_add, Rat.natCast_mul, Rat.natCast_pow, ten_cast, tz_toNat (d - 1 - l)] at g1 g2
  have hp := p10R (-(d - 1 - l)).toNat
  generalize (10 : Rat) ^ (-(d - 1 - l)).toNat = p at *
  generalize tz (d - 1 - l) = t at *
  generalize (rowN A B d l : Rat) = r at *
  have c2 : ((2 : Nat) : Rat) = 2 := rfl
  rw [c2] at g1 g2
  constructor
  · refine Rat.le_of_mul_le_mul_right (c := p) ?_ hp
    grind
  · refine Rat.le_of_mul_le_mul_right (c := p) ?_ hp
    grind
theorem lead_rat {A B : Nat} {l : Int} (h : isLead A B l) : tz l * B ≤ A ∧ (A : Rat) < tz (l + 1) * B := by
  obtain ⟨h1, h2⟩ := h
  have g1 := natR_le h1
  have g2 := natR_lt h2
  simp only [Rat.natCast_mul, Rat.natCast_pow, ten_cast, tz_toNat l, tz_toNat (l + 1)] at g1 g2
  have hp := p10R (-l).toNat
  have hp' := p10R (-(l + 1)).toNat
  constructor
  · refine Rat.le_of_mul_le_mul_right (c := (10 : Rat) ^ (-l).toNat) ?_ hp
    grind
  · refine Rat.lt_of_mul_lt_mul_right (c := (10 : Rat) ^ (-(l + 1)).toNat) ?_ (Rat.le_of_lt hp')
    grind
end Mine


namespace Mine
abbrev val (p : Int × Int) : Rat := (p.1 : Rat) * tz p.2
theorem strip_val {n : Int} (h : n ≠ 0) : ∃ j : Nat, n = (strip n 0).1 * 10 ^ j ∧ cd n = cd (strip n 0).1 + j := by
  obtain ⟨a, j, rfl, ha⟩ := strip_ex h
  rw [strip_of ha]
  exact ⟨j, rfl, cd_mul_pow (by omega) j⟩
theorem ten_castI : ((10 : Int) : Rat) = 10 := rfl
theorem tz_natI (j : Nat) : (((10 : Int) ^ j : Int) : Rat) = tz (j : Int) := by rw [Rat.intCast_pow, tz_nat]; rfl
abbrev sgI (m : Int) : Int := if m > 0 then 1 else -1
theorem sgI_abs {m : Int} (h : m ≠ 0) : m = sgI m * (m.natAbs : Nat) := by unfold sgI; split <;> omega
theorem rdig_val {m e D : Int} (hm : m ≠ 0) (hD : 1 ≤ D) : val (rdig m e D) = (sgI m : Rat) * (rowN m.natAbs 1 D (cd m - 1) : Rat) * tz (e + cd m - D) := by
  have hpos : 0 < m.natAbs := by omega
  have hl : isLead m.natAbs 1 (cd m - 1) := isLead_one hpos
  have hr := rowN_pos (by decide) hD hl
  rw [rdig_row hm hD]
  generalize rowN m.natAbs 1 D (cd m - 1) = r at *
  obtain ⟨j, h1, h2⟩ := strip_val (n := (r : Int)) (by omega)
  have h3 : (r : Rat) = ((strip (r : Int) 0).1 : Rat) * tz j := by
    have := congrArg (fun z : Int => (z : Rat)) h1
    simp only [Rat.intCast_mul, tz_natI] at this
    exact this
  show (((if m > 0 then 1 else -1) * (strip (r : Int) 0).1 : Int) : Rat) * tz (e + cd m - D + cd r - cd (strip (r : Int) 0).1) = _
  rw [h2, show e + cd m - D + (cd (strip (r : Int) 0).1 + (j : Int)) - cd (strip (r : Int) 0).1 = e + cd m - D + j by omega, tz_add, Rat.intCast_mul, h3]
  grind
/-- a rounding to D digits errs by 5 / 10 ** D of its value at most -/
theorem rdig_err (m e : Int) {D : Int} (hD : 1 ≤ D) : ∃ c : Rat, val (rdig m e D) = val (m, e) * c ∧ 1 - 5 * tz (-D) ≤ c ∧ c ≤ 1 + 5 * tz (-D) := by
  have hδ := tz_pos (-D)
  by_cases hm : m = 0
  · subst hm
    refine ⟨1, ?_, by grind, by grind⟩
    rw [rdig_zero (by omega)]
    show ((0 : Int) : Rat) * tz 0 = ((0 : Int) : Rat) * tz e * 1
    rw [Rat.intCast_zero, Rat.zero_mul, Rat.zero_mul, Rat.zero_mul]
  have hpos : 0 < m.natAbs := by omega
  have hl : isLead m.natAbs 1 (cd m - 1) := isLead_one hpos
  obtain ⟨r1, r2⟩ := row_rat (A := m.natAbs) (B := 1) (d := D) (l := cd m - 1) (by decide)
  obtain ⟨l1, -⟩ := lead_rat hl
  have hA := natR_pos hpos
  rw [rdig_val hm hD]
  have hv : val (m, e) = (sgI m : Rat) * (m.natAbs : Rat) * tz e := by
    show (m : Rat) * tz e = _
    have := congrArg (fun z : Int => (z : Rat)) (sgI_abs hm)
    simp only [Rat.intCast_mul, Rat.intCast_natCast] at this
    rw [← this]
  rw [hv, show e + cd m - D = e + (cd m - D) by omega, tz_add]
  have c1 : ((1 : Nat) : Rat) = 1 := rfl
  rw [c1] at r1 r2 l1
  rw [show D - 1 - (cd m - 1) = -(cd m - D) by omega] at r1 r2
  have hTU : tz (cd m - D) * tz (-(cd m - D)) = 1 := by rw [← tz_add, show cd m - D + -(cd m - D) = 0 by omega, tz_zero]
  have hT : tz (cd m - D) = tz (cd m - 1) * tz (-D) * 10 := by rw [← tz_add, ← tz_succ]; congr 1; omega
  have hT0 := tz_pos (cd m - D)
  generalize (rowN m.natAbs 1 D (cd m - 1) : Rat) = r at *
  generalize (m.natAbs : Rat) = A at *
  generalize (sgI m : Rat) = s at *
  generalize tz (-(cd m - D)) = U at *
  generalize tz (cd m - 1) = t1 at *
  generalize tz (cd m - D) = T at *
  generalize tz (-D) = δ at *
  have hi : A * A⁻¹ = 1 := Rat.mul_inv_cancel _ (by grind)
  have hi0 : 0 < A⁻¹ := Rat.inv_pos.mpr hA
  have h5 := Rat.mul_le_mul_of_nonneg_right l1 (Rat.le_of_lt hδ)
  have e2 : (2 * A * U + 1) * T = 2 * A + T := by grind
  have e3 : 2 * A * U * T = 2 * A := by grind
  have e4 : (2 * r * 1 + 1) * T = 2 * (r * T) + T := by grind
  have e1 : 2 * r * 1 * T = 2 * (r * T) := by grind
  have hT' : T = 10 * (t1 * δ) := by grind
  have l1' : t1 * δ ≤ A * δ := by rw [show t1 * δ = t1 * 1 * δ by grind] ; exact h5
  have k1 : r * T ≤ A + 5 * (A * δ) := by
    have := Rat.mul_le_mul_of_nonneg_right r1 (Rat.le_of_lt hT0)
    rw [e1, e2] at this
    clear hTU hT e1 e2 e3 e4
    generalize r * T = z at *
    generalize t1 * δ = y at *
    generalize A * δ = x at *
    grind
  have k2 : A - 5 * (A * δ) ≤ r * T := by
    have := Rat.mul_le_mul_of_nonneg_right r2 (Rat.le_of_lt hT0)
    rw [e3, e4] at this
    clear hTU hT e1 e2 e3 e4
    generalize r * T = z at *
    generalize t1 * δ = y at *
    generalize A * δ = x at *
    grind
  refine ⟨r * T * A⁻¹, by grind, ?_, ?_⟩
  · have := Rat.mul_le_mul_of_nonneg_right k2 (Rat.le_of_lt hi0)
    have e : (A - 5 * (A * δ)) * A⁻¹ = 1 - 5 * δ := by grind
    rw [e] at this; exact this
  · have := Rat.mul_le_mul_of_nonneg_right k1 (Rat.le_of_lt hi0)
    have e : (A + 5 * (A * δ)) * A⁻¹ = 1 + 5 * δ := by grind
    rw [e] at this; exact this
theorem mulR_le {a b c d : Rat} (h1 : a ≤ b) (h2 : c ≤ d) (ha : 0 ≤ a) (hc : 0 ≤ c) : a * c ≤ b * d := by
  have k1 := Rat.mul_le_mul_of_nonneg_right h1 hc
  have k2 := Rat.mul_le_mul_of_nonneg_left h2 (Rat.le_trans ha h1)
  exact Rat.le_trans k1 k2
def Rel (ε v w : Rat) (k : Nat) : Prop := ∃ c, v = w * c ∧ (1 - ε) ^ k ≤ c ∧ c ≤ (1 + ε) ^ k
theorem Rel.refl (ε v : Rat) : Rel ε v v 0 := ⟨1, by grind, by simp, by simp⟩
theorem powR_add (x : Rat) (k j : Nat) : x ^ (k + j) = x ^ k * x ^ j := by
  induction j with
  | zero => simp
  | succ j ih => rw [← Nat.add_assoc, Rat.pow_succ, ih, Rat.pow_succ]; grind
theorem Rel.mul {ε v w v' w' : Rat} {k k' : Nat} (h0 : 0 ≤ ε) (h1 : ε ≤ 1) (h : Rel ε v w k) (h' : Rel ε v' w' k') : Rel ε (v * v') (w * w') (k + k') := by
  obtain ⟨c, rfl, a1, a2⟩ := h
  obtain ⟨c', rfl, b1, b2⟩ := h'
  have p1 : 0 ≤ (1 - ε) ^ k := Rat.pow_nonneg (by grind)
  have p2 : 0 ≤ (1 - ε) ^ k' := Rat.pow_nonneg (by grind)
  refine ⟨c * c', by grind, ?_, ?_⟩
  · rw [powR_add]; exact mulR_le a1 b1 p1 p2
  · rw [powR_add]; exact mulR_le a2 b2 (Rat.le_trans p1 a1) (Rat.le_trans p2 b1)
theorem Rel.round {D w : Rat} {m e d : Int} {k : Nat} (hd : 1 ≤ d) (hD : D = 5 * tz (-d)) (h1 : D ≤ 1) (h : Rel D (val (m, e)) w k) : Rel D (val (rdig m e d)) w (k + 1) := by
  obtain ⟨c, e1, c1, c2⟩ := rdig_err m e hd
  have h0 : 0 ≤ D := by have := tz_pos (-d); grind
  have : Rel D c 1 1 := ⟨c, by grind, by rw [Rat.pow_one, hD]; exact c1, by rw [Rat.pow_one, hD]; exact c2⟩
  have h2 := h.mul h0 h1 this
  rw [← e1] at h2
  obtain ⟨c', q1, q2, q3⟩ := h2
  exact ⟨c', by grind, q2, q3⟩
theorem val_mul (f x : Int × Int) : val (f.1 * x.1, f.2 + x.2) = val f * val x := by
  show ((f.1 * x.1 : Int) : Rat) * tz (f.2 + x.2) = _
  rw [Rat.intCast_mul, tz_add]; grind
theorem val_sq (x : Int × Int) : val (x.1 * x.1, 2 * x.2) = val x * val x := by rw [← val_mul]; congr 2; omega
theorem powR_sq (x : Rat) (k : Nat) : (x * x) ^ k = x ^ (2 * k) := by
  induction k with
  | zero => simp
  | succ k ih => rw [Rat.pow_succ, ih, show 2 * (k + 1) = 2 * k + 1 + 1 by omega, Rat.pow_succ, Rat.pow_succ]; grind
theorem rloop_rel {ε : Rat} {d : Int} (hd : 0 ≤ d) (hε : ε = 5 * tz (-(d + 8))) (h1 : ε ≤ 1) : ∀ (j : Nat) (n : Int) (f x : Int × Int) (F X : Rat) (kf kx : Nat), n.toNat ≤ j → Rel ε (val f) F kf → Rel ε (val x) X kx →
    Rel ε (val (rloop f x n d)) (F * X ^ n.toNat) (kf + n.toNat * (kx + 1)) := by
  have h0 : 0 ≤ ε := by have := tz_pos (-(d + 8)); grind
  intro j
  induction j with
  | zero =>
    intro n f x F X kf kx hn hf hx
    rw [rloop, dif_pos (show n ≤ 0 by omega), show n.toNat = 0 by omega, Rat.pow_zero, Nat.zero_mul, Nat.add_zero, Rat.mul_one]
    exact hf
  | succ j ih =>
    intro n f x F X kf kx hn hf hx
    by_cases h : n ≤ 0
    · rw [rloop, dif_pos h, show n.toNat = 0 by omega, Rat.pow_zero, Nat.zero_mul, Nat.add_zero, Rat.mul_one]
      exact hf
    rw [rloop, dif_neg h]
    have hx2 : Rel ε (val (rdig (x.1 * x.1) (2 * x.2) (d + 8))) (X * X) (kx + kx + 1) := by
      refine Rel.round (by omega) hε h1 ?_
      rw [val_sq]; exact hx.mul h0 h1 hx
    have hf2 : Rel ε (val (rdig (f.1 * x.1) (f.2 + x.2) (d + 8))) (F * X) (kf + kx + 1) := by
      refine Rel.round (by omega) hε h1 ?_
      rw [val_mul]; exact hf.mul h0 h1 hx
    by_cases h2 : n % 2 = 1
    · rw [if_pos h2]
      have := ih (n / 2) _ _ _ _ _ _ (by omega) hf2 hx2
      rw [powR_sq] at this
      have e1 : F * X ^ n.toNat = F * X * X ^ (2 * (n / 2).toNat) := by
        rw [show n.toNat = 2 * (n / 2).toNat + 1 by omega, Rat.pow_succ]; grind
      have e2 : kf + n.toNat * (kx + 1) = kf + kx + 1 + (n / 2).toNat * (kx + kx + 1 + 1) := by
        rw [show n.toNat = 2 * (n / 2).toNat + 1 by omega]; grind
      rw [e1, e2]; exact this
    · rw [if_neg h2]
      have := ih (n / 2) _ _ _ _ _ _ (by omega) hf hx2
      rw [powR_sq] at this
      have e1 : n.toNat = 2 * (n / 2).toNat := by omega
      have e2 : kf + n.toNat * (kx + 1) = kf + (n / 2).toNat * (kx + kx + 1 + 1) := by
        rw [e1]; grind
      rw [e2, e1]; exact this
theorem raised_rel {ε : Rat} {x0 x1 n d : Int} (hd : 0 ≤ d) (hn : 64 < n) (hε : ε = 5 * tz (-(d + 8))) (h1 : ε ≤ 1) : Rel ε (val (raisedP x0 x1 n d)) ((val (x0, x1)) ^ n.toNat) n.toNat := by
  unfold raisedP
  rw [if_neg (by omega)]
  have h := rloop_rel hd hε h1 n.toNat n (1, 0) (x0, x1) 1 (val (x0, x1)) 0 0 (Nat.le_refl _) (by
    have : val (1, 0) = 1 := by show ((1 : Int) : Rat) * tz 0 = 1; rw [tz_zero, Rat.intCast_one, Rat.mul_one]
    rw [this]; exact Rel.refl _ _) (Rel.refl _ _)
  rw [Rat.one_mul, Nat.zero_add, Nat.zero_add, Nat.mul_one] at h
  exact h
end Mine


namespace Mine
/-- what a rounded row says of the value V = A / B * 10 ** ten -/
structure RowV (V : Rat) (r : Nat) (l d : Int) : Prop where
  up : 2 * ((r : Rat) * tz (l - d + 1)) ≤ 2 * V + tz (l - d + 1)
  dn : 2 * V ≤ 2 * ((r : Rat) * tz (l - d + 1)) + tz (l - d + 1)
  lo : tz l ≤ V
  hi : V < tz (l + 1)
theorem rowV_of {A B : Nat} {V : Rat} {l d ten : Int} (hB : 0 < B) (hl : isLead A B l) (hV : V * B = A * tz ten) : RowV V (rowN A B d l) (l + ten) d := by
  obtain ⟨r1, r2⟩ := row_rat (A := A) (d := d) (l := l) hB
  obtain ⟨l1, l2⟩ := lead_rat hl
  have hBr := natR_pos hB
  have hu := tz_pos (l + ten - d + 1)
  have ht := tz_pos ten
  have e : tz (d - 1 - l) * tz (l + ten - d + 1) = tz ten := by rw [← tz_add]; congr 1; omega
  have e1 : tz (l + ten) = tz l * tz ten := tz_add _ _
  have e2 : tz (l + ten + 1) = tz (l + 1) * tz ten := by rw [← tz_add]; congr 1; omega
  generalize hr : (rowN A B d l : Rat) = r at *
  generalize tz (d - 1 - l) = p at *
  generalize hut : tz (l + ten - d + 1) = u at *
  generalize tz ten = T at *
  generalize (A : Rat) = a at *
  generalize (B : Rat) = b at *
  constructor
  · rw [hr, hut]
    refine Rat.le_of_mul_le_mul_right (c := b) ?_ hBr
    have := Rat.mul_le_mul_of_nonneg_right r1 (Rat.le_of_lt hu)
    have q1 : 2 * r * b * u = 2 * (r * u) * b := by grind
    have q2 : (2 * a * p + b) * u = (2 * V + u) * b := by grind
    rw [q1, q2] at this; exact this
  · rw [hr, hut]
    refine Rat.le_of_mul_le_mul_right (c := b) ?_ hBr
    have := Rat.mul_le_mul_of_nonneg_right r2 (Rat.le_of_lt hu)
    have q1 : 2 * a * p * u = 2 * V * b := by grind
    have q2 : (2 * r * b + b) * u = (2 * (r * u) + u) * b := by grind
    rw [q1, q2] at this; exact this
  · rw [e1]
    refine Rat.le_of_mul_le_mul_right (c := b) ?_ hBr
    have := Rat.mul_le_mul_of_nonneg_right l1 (Rat.le_of_lt ht)
    grind
  · rw [e2]
    refine Rat.lt_of_mul_lt_mul_right (c := b) ?_ (Rat.le_of_lt hBr)
    have := Rat.mul_lt_mul_of_pos_right l2 ht
    grind
theorem ndn_rat {r : Nat} (h : 0 < r) : tz ((ndn r : Int) - 1) ≤ (r : Rat) ∧ (r : Rat) < tz (ndn r : Int) := by
  have h1 := natR_le (ndn_le h)
  have h2 := natR_lt (ndn_lt r)
  have h3 := ndn_one_le h
  rw [Rat.natCast_pow, ten_cast, ← tz_nat] at h1 h2
  refine ⟨?_, h2⟩
  rw [show ((ndn r : Int) - 1) = ((ndn r - 1 : Nat) : Int) by omega]; exact h1
/-- two values that lie near have rows with neighbouring leads -/
theorem lead_near {V W : Rat} {r r' : Nat} {l l' d : Int} (hd : 1 ≤ d) (h : RowV V r l d) (h' : RowV W r' l' d) (hr : 0 < r) (hr' : 0 < r') (hVW : 10 * V ≤ 11 * W) :
    l + (cd r - d) ≤ l' + (cd r' - d) + 1 := by
  have g1 := (ndn_rat hr).1
  have g2 := (ndn_rat hr').2
  have hu := tz_pos (l - d + 1)
  have hu' := tz_pos (l' - d + 1)
  have m1 : tz (l - d + 1) ≤ tz l := tz_mono (by omega)
  have m2 : tz (l' - d + 1) ≤ tz l' := tz_mono (by omega)
  have k1 := Rat.mul_le_mul_of_nonneg_right g1 (Rat.le_of_lt hu)
  have k2 := Rat.mul_lt_mul_of_pos_right g2 hu'
  rw [← tz_add] at k1 k2
  obtain ⟨u1, d1, lo1, hi1⟩ := h
  obtain ⟨u2, d2, lo2, hi2⟩ := h'
  have : tz ((ndn r : Int) - 1 + (l - d + 1)) < tz ((ndn r' : Int) + (l' - d + 1) + 1) := by
    rw [tz_succ]
    generalize (r : Rat) * tz (l - d + 1) = R at *
    generalize (r' : Rat) * tz (l' - d + 1) = R' at *
    generalize tz ((ndn r : Int) - 1 + (l - d + 1)) = x at *
    generalize tz ((ndn r' : Int) + (l' - d + 1)) = y at *
    generalize tz (l - d + 1) = u at *
    generalize tz (l' - d + 1) = u' at *
    generalize tz l = tl at *
    generalize tz l' = tl' at *
    grind
  have := tz_lt this
  rw [cd_nat, cd_nat]
  omega
end Mine


namespace Mine
theorem bern_lo {x : Rat} (h0 : 0 ≤ x) (h1 : x ≤ 1) (k : Nat) : 1 - (k : Rat) * x ≤ (1 - x) ^ k := by
  induction k with
  | zero => rw [Rat.pow_zero]; have : ((0 : Nat) : Rat) = 0 := rfl; grind
  | succ k ih =>
    rw [Rat.pow_succ, show ((k + 1 : Nat) : Rat) = (k : Rat) + 1 by rw [Rat.natCast_add]; rfl]
    have h2 := Rat.mul_le_mul_of_nonneg_right ih (show 0 ≤ 1 - x by grind)
    have h3 : 0 ≤ (k : Rat) * (x * x) := Rat.mul_nonneg (Rat.natCast_nonneg) (Rat.mul_nonneg h0 h0)
    generalize (1 - x) ^ k = p at *
    generalize hk : (k : Rat) = K at *
    generalize hy : K * x = y at *
    have : (1 - y) * (1 - x) = 1 - (K + 1) * x + K * (x * x) := by grind
    grind
theorem bern_hi {x : Rat} (h0 : 0 ≤ x) (k : Nat) (h1 : 2 * (k : Rat) * x ≤ 1) : (1 + x) ^ k ≤ 1 + 2 * (k : Rat) * x := by
  induction k with
  | zero => rw [Rat.pow_zero]; have : ((0 : Nat) : Rat) = 0 := rfl; grind
  | succ k ih =>
    rw [show ((k + 1 : Nat) : Rat) = (k : Rat) + 1 by rw [Rat.natCast_add]; rfl] at h1 ⊢
    have h4 : 2 * (k : Rat) * x ≤ 1 := by grind
    have h2 := Rat.mul_le_mul_of_nonneg_right (ih h4) (show 0 ≤ 1 + x by grind)
    have h3 := Rat.mul_le_mul_of_nonneg_right h4 h0
    rw [Rat.pow_succ]
    generalize (1 + x) ^ k = p at *
    generalize (k : Rat) = K at *
    generalize hy : 2 * K * x = y at *
    have : (1 + y) * (1 + x) = 1 + 2 * (K + 1) * x - x + y * x := by grind
    grind
theorem bern {x c : Rat} {k : Nat} (h0 : 0 ≤ x) (hk : k ≤ 130) (hx : 260 * x ≤ 1) (h1 : (1 - x) ^ k ≤ c) (h2 : c ≤ (1 + x) ^ k) : 1 - 260 * x ≤ c ∧ c ≤ 1 + 260 * x := by
  have hK : (k : Rat) ≤ 130 := natR_le hk
  have hK0 : (0 : Rat) ≤ (k : Rat) := Rat.natCast_nonneg
  have a1 := Rat.mul_le_mul_of_nonneg_right hK h0
  have e : 2 * (k : Rat) * x = 2 * ((k : Rat) * x) := by grind
  have b1 := bern_lo h0 (by grind) k
  have b2 := bern_hi h0 k (by rw [e]; grind)
  rw [e] at b2
  generalize (k : Rat) * x = y at *
  grind
/-- two values that lie near, as quotients of magnitudes -/
structure Near (A B A' B' : Nat) (ten ten' d : Int) (V W : Rat) : Prop where
  hV : V * B = A * tz ten
  hW : W * B' = A' * tz ten'
  p : 0 < V
  up : W ≤ V + V * (tz (-d) * (1 / 1000))
  dn : V ≤ W + V * (tz (-d) * (1 / 1000))
theorem sgI_rat {a : Int} (h : a ≠ 0) : (a : Rat) = (sgI a : Rat) * (a.natAbs : Rat) := by
  have := congrArg (fun z : Int => (z : Rat)) (sgI_abs h)
  simp only [Rat.intCast_mul, Rat.intCast_natCast] at this
  exact this
theorem sgI_two (a : Int) : ((sgI a : Int) : Rat) = 1 ∧ a > 0 ∨ ((sgI a : Int) : Rat) = -1 ∧ ¬ a > 0 := by
  by_cases h : a > 0
  · left; exact ⟨by unfold sgI; rw [if_pos h]; rfl, h⟩
  · right; exact ⟨by unfold sgI; rw [if_neg h]; rfl, h⟩
theorem near_of {a b a' b' ten ten' d : Int} {c : Rat} (ha : a ≠ 0) (ha' : a' ≠ 0) (hb : 0 < b) (hb' : 0 < b') (hd : 1 ≤ d) (h : (a' : Rat) * tz ten' * b = a * tz ten * b' * c)
    (c1 : 1 - tz (-d) * (1 / 1000) ≤ c) (c2 : c ≤ 1 + tz (-d) * (1 / 1000)) :
    (a' > 0 ↔ a > 0) ∧ ∃ V W, Near a.natAbs b.natAbs a'.natAbs b'.natAbs ten ten' d V W := by
  have hA := natR_pos (a := a.natAbs) (by omega)
  have hA' := natR_pos (a := a'.natAbs) (by omega)
  have hB := natR_pos (a := b.natAbs) (by omega)
  have hB' := natR_pos (a := b'.natAbs) (by omega)
  have eb : (b : Rat) = (b.natAbs : Rat) := by
    have := congrArg (fun z : Int => (z : Rat)) (show b = ((b.natAbs : Nat) : Int) by omega)
    simpa only [Rat.intCast_natCast] using this
  have eb' : (b' : Rat) = (b'.natAbs : Rat) := by
    have := congrArg (fun z : Int => (z : Rat)) (show b' = ((b'.natAbs : Nat) : Int) by omega)
    simpa only [Rat.intCast_natCast] using this
  have hd1 : tz (-d) ≤ 1 := by rw [← tz_zero]; exact tz_mono (by omega)
  have hd0 := tz_pos (-d)
  have ht := tz_pos ten
  have ht' := tz_pos ten'
  have hc : 0 < c := by grind
  rw [sgI_rat ha, sgI_rat ha', eb, eb'] at h
  have hp : 0 < (a'.natAbs : Rat) * tz ten' * b.natAbs := Rat.mul_pos (Rat.mul_pos hA' ht') hB
  have hq : 0 < (a.natAbs : Rat) * tz ten * b'.natAbs * c := Rat.mul_pos (Rat.mul_pos (Rat.mul_pos hA ht) hB') hc
  have key : (a' > 0 ↔ a > 0) ∧ (a'.natAbs : Rat) * tz ten' * b.natAbs = (a.natAbs : Rat) * tz ten * b'.natAbs * c := by
    rcases sgI_two a with ⟨e1, e2⟩ | ⟨e1, e2⟩ <;> rcases sgI_two a' with ⟨f1, f2⟩ | ⟨f1, f2⟩ <;> rw [e1, f1] at h
    · exact ⟨⟨fun _ => e2, fun _ => f2⟩, by grind⟩
    · exfalso; grind
    · exfalso; grind
    · exact ⟨⟨fun g => absurd g f2, fun g => absurd g e2⟩, by grind⟩
  refine ⟨key.1, (a.natAbs : Rat) * tz ten * (b.natAbs : Rat)⁻¹, (a'.natAbs : Rat) * tz ten' * (b'.natAbs : Rat)⁻¹, ?_⟩
  have k := key.2
  generalize hAe : (a.natAbs : Rat) = A at *
  generalize hAe' : (a'.natAbs : Rat) = A' at *
  generalize hBe : (b.natAbs : Rat) = B at *
  generalize hBe' : (b'.natAbs : Rat) = B' at *
  generalize hTe : tz ten = T at *
  generalize hTe' : tz ten' = T' at *
  generalize hηe : tz (-d) * (1 / 1000) = η at *
  have i1 : B * B⁻¹ = 1 := Rat.mul_inv_cancel _ (by grind)
  have i2 : B' * B'⁻¹ = 1 := Rat.mul_inv_cancel _ (by grind)
  have i3 : 0 < B⁻¹ := Rat.inv_pos.mpr hB
  have hVp : 0 < A * T * B⁻¹ := Rat.mul_pos (Rat.mul_pos hA ht) i3
  have e : A' * T' * B'⁻¹ = A * T * B⁻¹ * c := by
    have : A' * T' * B * (B⁻¹ * B'⁻¹) = A * T * B' * c * (B⁻¹ * B'⁻¹) := by rw [k]
    grind
  have u := Rat.mul_le_mul_of_nonneg_left c2 (Rat.le_of_lt hVp)
  have v := Rat.mul_le_mul_of_nonneg_left c1 (Rat.le_of_lt hVp)
  refine ⟨by rw [hBe, hAe, hTe]; grind, by rw [hBe', hAe', hTe']; grind, hVp, ?_, ?_⟩
  · rw [e, hηe]; grind
  · rw [e, hηe]; grind
end Mine


namespace Mine
/-- the core: a rounded row of W lies within a unit of V's last place -/
theorem near_core {V W : Rat} {r' : Nat} {L L' d : Int} (hd : 1 ≤ d) (lo : tz L ≤ V) (hi : V < tz (L + 1)) (h : RowV W r' L' d)
    (up : W ≤ V + V * (tz (-d) * (1 / 1000))) (dn : V ≤ W + V * (tz (-d) * (1 / 1000))) :
    V ≤ (r' : Rat) * tz (L' - d + 1) + tz (L - d + 1) ∧ (r' : Rat) * tz (L' - d + 1) ≤ V + tz (L - d + 1) := by
  obtain ⟨h1, h2, h3, h4⟩ := h
  have hV : V * (tz (-d) * (1 / 1000)) ≤ tz (L - d + 1) * (1 / 1000) := by
    have hdp := tz_pos (-d)
    have := Rat.mul_le_mul_of_nonneg_right (Rat.le_of_lt hi) (Rat.le_of_lt hdp)
    rw [← tz_add, show L + 1 + -d = L - d + 1 by omega] at this
    generalize tz (L - d + 1) = u at *
    generalize tz (-d) = q at *
    have e : V * (q * (1 / 1000)) = V * q * (1 / 1000) := by grind
    rw [e]; grind
  have hu := tz_pos (L - d + 1)
  have huL : tz (L - d + 1) ≤ tz L := tz_mono (by omega)
  have hs := tz_succ L
  generalize V * (tz (-d) * (1 / 1000)) = q at *
  by_cases hc : L' ≤ L
  · have hu' : tz (L' - d + 1) ≤ tz (L - d + 1) := tz_mono (by omega)
    generalize (r' : Rat) * tz (L' - d + 1) = R at *
    generalize tz (L' - d + 1) = u' at *
    generalize tz (L - d + 1) = u at *
    constructor <;> grind
  · have hL : L' = L + 1 := by
      have : tz L' < tz (L + 2) := by
        rw [show L + 2 = L + 1 + 1 by omega, tz_succ]
        generalize tz (L - d + 1) = u at *
        generalize tz (L + 1) = t1 at *
        grind
      have := tz_lt this
      omega
    subst hL
    obtain ⟨k, hk⟩ : ∃ k : Nat, d = ((k + 1 : Nat) : Int) := ⟨(d - 1).toNat, by omega⟩
    have e1 : tz (L + 1) = tz (k : Int) * tz (L + 1 - d + 1) := by rw [← tz_add]; congr 1; omega
    have e2 : tz (L + 1 - d + 1) = tz (L - d + 1) * 10 := by rw [← tz_succ]; congr 1; omega
    have e3 : tz (k : Int) = ((10 ^ k : Nat) : Rat) := by rw [tz_nat, Rat.natCast_pow]; rfl
    have hr : r' = 10 ^ k := by
      have a1 : r' < 10 ^ k + 1 := by
        refine Rat.natCast_lt_natCast.mp ?_
        rw [Rat.natCast_add, ← e3]
        refine Rat.lt_of_mul_lt_mul_right (c := tz (L + 1 - d + 1)) ?_ (Rat.le_of_lt (tz_pos _))
        have c1 : ((1 : Nat) : Rat) = 1 := rfl
        rw [c1]
        have : (tz (k : Int) + 1) * tz (L + 1 - d + 1) = tz (L + 1) + tz (L + 1 - d + 1) := by rw [e1]; grind
        rw [this]
        generalize (r' : Rat) * tz (L + 1 - d + 1) = R at *
        generalize tz (L + 1 - d + 1) = u' at *
        generalize tz (L - d + 1) = u at *
        generalize tz (L + 1) = t1 at *
        grind
      have a2 : 10 ^ k < r' + 1 := by
        refine Rat.natCast_lt_natCast.mp ?_
        rw [Rat.natCast_add, ← e3]
        refine Rat.lt_of_mul_lt_mul_right (c := tz (L + 1 - d + 1)) ?_ (Rat.le_of_lt (tz_pos _))
        have c1 : ((1 : Nat) : Rat) = 1 := rfl
        rw [c1, ← e1]
        have : ((r' : Rat) + 1) * tz (L + 1 - d + 1) = (r' : Rat) * tz (L + 1 - d + 1) + tz (L + 1 - d + 1) := by grind
        rw [this]
        generalize (r' : Rat) * tz (L + 1 - d + 1) = R at *
        generalize tz (L + 1 - d + 1) = u' at *
        generalize tz (L - d + 1) = u at *
        generalize tz (L + 1) = t1 at *
        grind
      omega
    have e4 : (r' : Rat) * tz (L + 1 - d + 1) = tz (L + 1) := by rw [hr, ← e3, ← e1]
    rw [e4]
    generalize tz (L + 1 - d + 1) = u' at *
    generalize tz (L - d + 1) = u at *
    generalize tz (L + 1) = t1 at *
    constructor <;> grind
theorem near_rows {A B A' B' : Nat} {ten ten' d l l' : Int} {V W : Rat} (hB : 0 < B) (hB' : 0 < B') (hd : 1 ≤ d) (N : Near A B A' B' ten ten' d V W) (hl : isLead A B l) (hl' : isLead A' B' l') :
    l + ten + (cd (rowN A B d l : Nat) - d) ≤ l' + ten' + (cd (rowN A' B' d l' : Nat) - d) + 1 ∧ l' + ten' + (cd (rowN A' B' d l' : Nat) - d) ≤ l + ten + (cd (rowN A B d l : Nat) - d) + 1 ∧
    V ≤ (rowN A' B' d l' : Rat) * tz (l' + ten' - d + 1) + tz (l + ten + (cd (rowN A B d l : Nat) - d) - d + 1) ∧ (rowN A' B' d l' : Rat) * tz (l' + ten' - d + 1) ≤ V + tz (l + ten + (cd (rowN A B d l : Nat) - d) - d + 1) := by
  obtain ⟨hV, hW, hp, up, dn⟩ := N
  have r1 := rowV_of (d := d) hB hl hV
  have r2 := rowV_of (d := d) hB' hl' hW
  have p1 := rowN_pos hB hd hl
  have p2 := rowN_pos hB' hd hl'
  have hd1 : tz (-d) ≤ 1 := by rw [← tz_zero]; exact tz_mono (by omega)
  have hm := Rat.mul_le_mul_of_nonneg_left hd1 (Rat.le_of_lt hp)
  have eq : V * (tz (-d) * (1 / 1000)) = V * tz (-d) * (1 / 1000) := by grind
  obtain ⟨c1, c2⟩ := near_core hd r1.lo r1.hi r2 up dn
  obtain ⟨k1, -⟩ := rowN_cd hB hd hl
  have hmono : tz (l + ten - d + 1) ≤ tz (l + ten + (cd (rowN A B d l : Nat) - d) - d + 1) := tz_mono (by omega)
  refine ⟨lead_near hd r1 r2 p1 p2 (by grind), lead_near hd r2 r1 p2 p1 (by grind), by grind, by grind⟩
end Mine


namespace Mine
theorem fin_some {pos : Prop} [Decidable pos] {r l d tp : Int} (h1 : l + (cd r - d) ≤ tp) (h2 : -tp ≤ l + (cd r - d)) :
    fin pos r l d tp = some ((if pos then 1 else -1) * (strip r 0).1, l + (cd r - d) - cd (strip r 0).1 + 1) := by
  unfold fin
  rw [if_neg (by omega), if_neg (by omega)]
theorem fin_hi {pos : Prop} [Decidable pos] {r l d tp : Int} (h1 : tp < l + (cd r - d)) : fin pos r l d tp = none := by
  unfold fin
  rw [if_pos (by omega)]
theorem fin_lo {pos : Prop} [Decidable pos] {r l d tp : Int} (h0 : 0 ≤ tp) (h1 : l + (cd r - d) < -tp) : fin pos r l d tp = some (0, 0) := by
  unfold fin
  rw [if_neg (by omega), if_pos (by omega)]
theorem tz_toNat_mul {e low : Int} (h : low ≤ e) : (10 : Rat) ^ (e - low).toNat * tz low = tz e := by
  rw [← tz_nat, ← tz_add]; congr 1; omega
theorem intR_le {a b : Int} : (a : Rat) ≤ (b : Rat) ↔ a ≤ b := Rat.intCast_le_intCast
theorem pow10R (k : Nat) : (((10 : Int) ^ k : Int) : Rat) = (10 : Rat) ^ k := by rw [Rat.intCast_pow]; rfl
theorem bR {b : Int} (h : 0 < b) : (b : Rat) = (b.natAbs : Rat) := by
  have := congrArg (fun z : Int => (z : Rat)) (show b = ((b.natAbs : Nat) : Int) by omega)
  simpa only [Rat.intCast_natCast] using this
/-- the nearness, as the law asks it -/
theorem near_ints {a b y0 y1 ten low last : Int} {V R sg : Rat} (hb : 0 < b) (hV : (a : Rat) * tz ten = sg * (V * b)) (hy : (y0 : Rat) * tz y1 = sg * R) (hsg : sg = 1 ∨ sg = -1)
    (h1 : V ≤ R + tz last) (h2 : R ≤ V + tz last) (l1 : low ≤ ten) (l2 : low ≤ y1) (l3 : low ≤ last) :
    -(b * 10 ^ (last - low).toNat) ≤ a * 10 ^ (ten - low).toNat - y0 * b * 10 ^ (y1 - low).toNat ∧ a * 10 ^ (ten - low).toNat - y0 * b * 10 ^ (y1 - low).toNat ≤ b * 10 ^ (last - low).toNat := by
  have hB : (0 : Rat) < b := by rw [bR hb]; exact natR_pos (by omega)
  have g1 := tz_toNat_mul l1
  have g2 := tz_toNat_mul l2
  have g3 := tz_toNat_mul l3
  have hl := tz_pos low
  have q1 := Rat.mul_le_mul_of_nonneg_right h1 (Rat.le_of_lt hB)
  have q2 := Rat.mul_le_mul_of_nonneg_right h2 (Rat.le_of_lt hB)
  have e1 : ((a : Rat) * (10 : Rat) ^ (ten - low).toNat - y0 * b * (10 : Rat) ^ (y1 - low).toNat) * tz low = sg * (V * b - R * b) := by
    have : ((a : Rat) * (10 : Rat) ^ (ten - low).toNat - y0 * b * (10 : Rat) ^ (y1 - low).toNat) * tz low = a * ((10 : Rat) ^ (ten - low).toNat * tz low) - y0 * ((10 : Rat) ^ (y1 - low).toNat * tz low) * b := by grind
    rw [this, g1, g2, hV, hy]; grind
  have e2 : ((b : Rat) * (10 : Rat) ^ (last - low).toNat) * tz low = tz last * b := by
    have : ((b : Rat) * (10 : Rat) ^ (last - low).toNat) * tz low = b * ((10 : Rat) ^ (last - low).toNat * tz low) := by grind
    rw [this, g3]; grind
  constructor
  · refine intR_le.mp (Rat.le_of_mul_le_mul_right (c := tz low) ?_ hl)
    simp only [Rat.intCast_neg, Rat.intCast_sub, Rat.intCast_mul, pow10R]
    rw [Rat.neg_mul, e1, e2]
    rcases hsg with rfl | rfl <;> grind
  · refine intR_le.mp (Rat.le_of_mul_le_mul_right (c := tz low) ?_ hl)
    simp only [Rat.intCast_sub, Rat.intCast_mul, pow10R]
    rw [e1, e2]
    rcases hsg with rfl | rfl <;> grind
theorem far_fin {a b a' b' d tp ten ten' : Int} {V W : Rat} (ha : a ≠ 0) (ha' : a' ≠ 0) (hb : 0 < b) (hb' : 0 < b') (hd : 1 ≤ d) (ht : 0 ≤ tp) (hsg : a' > 0 ↔ a > 0)
    (N : Near a.natAbs b.natAbs a'.natAbs b'.natAbs ten ten' d V W) (hA : cd a ≤ 1250) (hB : cd b ≤ 1250) (ht1 : -10000 ≤ ten) (ht2 : ten ≤ 10000) :
    ∃ f0 f1, lround a b d (10 ^ 9) ten = some (f0, f1) ∧ f0 ≠ 0 ∧ cd f0 ≤ d + 1 ∧
      (tp + 1 < f1 + cd f0 - 1 → lround a' b' d tp ten' = none) ∧ (f1 + cd f0 - 1 < -(tp + 1) → lround a' b' d tp ten' = some (0, 0)) ∧
      (-(tp - 2) ≤ f1 + cd f0 - 1 → f1 + cd f0 - 1 ≤ tp - 2 → ∃ y0 y1, lround a' b' d tp ten' = some (y0, y1) ∧ y0 ≠ 0 ∧ cd y0 ≤ d + 1 ∧ -tp - d ≤ y1 ∧ y1 ≤ tp ∧
        ∀ low, low ≤ ten → low ≤ y1 → low ≤ f1 + cd f0 - 1 - d + 1 → 
          -(b * 10 ^ (f1 + cd f0 - 1 - d + 1 - low).toNat) ≤ a * 10 ^ (ten - low).toNat - y0 * b * 10 ^ (y1 - low).toNat ∧ a * 10 ^ (ten - low).toNat - y0 * b * 10 ^ (y1 - low).toNat ≤ b * 10 ^ (f1 + cd f0 - 1 - d + 1 - low).toNat) := by
  have hBn : 0 < b.natAbs := by omega
  have hBn' : 0 < b'.natAbs := by omega
  have hl := isLead_if ha hb
  have hlr : -1251 ≤ (if ((a.natAbs : Nat) : Int) * 10 ^ (max 0 (-(cd ((a.natAbs : Nat) : Int) - cd b))).toNat < b * 10 ^ (max 0 (cd ((a.natAbs : Nat) : Int) - cd b)).toNat then cd ((a.natAbs : Nat) : Int) - cd b - 1 else cd ((a.natAbs : Nat) : Int) - cd b) ∧
     (if ((a.natAbs : Nat) : Int) * 10 ^ (max 0 (-(cd ((a.natAbs : Nat) : Int) - cd b))).toNat < b * 10 ^ (max 0 (cd ((a.natAbs : Nat) : Int) - cd b)).toNat then cd ((a.natAbs : Nat) : Int) - cd b - 1 else cd ((a.natAbs : Nat) : Int) - cd b) ≤ 1251 := by
    have h1 : cd ((a.natAbs : Nat) : Int) = cd a := by unfold cd; rw [Int.natAbs_natCast]
    have h2 := hA
    have h3 := hB
    have h4 := cd_nonneg a
    have h5 := cd_nonneg b
    rw [h1]
    split <;> omega
  generalize (if ((a.natAbs : Nat) : Int) * 10 ^ (max 0 (-(cd ((a.natAbs : Nat) : Int) - cd b))).toNat < b * 10 ^ (max 0 (cd ((a.natAbs : Nat) : Int) - cd b)).toNat then cd ((a.natAbs : Nat) : Int) - cd b - 1 else cd ((a.natAbs : Nat) : Int) - cd b) = l at hl hlr
  have hl' := isLead_if ha' hb'
  generalize (if ((a'.natAbs : Nat) : Int) * 10 ^ (max 0 (-(cd ((a'.natAbs : Nat) : Int) - cd b'))).toNat < b' * 10 ^ (max 0 (cd ((a'.natAbs : Nat) : Int) - cd b')).toNat then cd ((a'.natAbs : Nat) : Int) - cd b' - 1 else cd ((a'.natAbs : Nat) : Int) - cd b') = l' at hl'
  obtain ⟨n1, n2, n3, n4⟩ := near_rows hBn hBn' hd N hl hl'
  obtain ⟨c1, c2⟩ := rowN_cd hBn hd hl
  obtain ⟨c1', c2'⟩ := rowN_cd hBn' hd hl'
  have p1 := rowN_pos hBn hd hl
  have p2 := rowN_pos hBn' hd hl'
  rw [lround_fin ha hb hl, lround_fin ha' hb' hl']
  generalize hr : rowN a.natAbs b.natAbs d l = r at *
  generalize hr' : rowN a'.natAbs b'.natAbs d l' = r' at *
  rw [fin_some (by omega) (by omega)]
  have s0 := strip_ne (m := (r : Int)) 0 (by omega)
  have s0' := strip_ne (m := (r' : Int)) 0 (by omega)
  have z : ∀ (q : Prop) [Decidable q] (x : Int), x ≠ 0 → (if q then 1 else -1) * x ≠ 0 := by
    intro q _ x hx
    split
    · omega
    · omega
  obtain ⟨j0, i1, i2⟩ := strip_val (n := (r : Int)) (by omega)
  refine ⟨_, _, rfl, z _ _ s0, by rw [cd_sgn]; omega, ?_⟩
  rw [cd_sgn, show l + ten + (cd (r : Int) - d) - cd (strip (r : Int) 0).1 + 1 + cd (strip (r : Int) 0).1 - 1 = l + ten + (cd (r : Int) - d) by omega]
  refine ⟨fun h => fin_hi (by omega), fun h => fin_lo ht (by omega), fun h1 h2 => ?_⟩
  rw [fin_some (by omega) (by omega)]
  obtain ⟨j, j1, j2⟩ := strip_val (n := (r' : Int)) (by omega)
  have s1' := cd_pos s0'
  refine ⟨_, _, rfl, z _ _ s0', by rw [cd_sgn]; omega, by omega, by omega, fun low e1 e2 e3 => ?_⟩
  refine near_ints (V := V) (R := (r' : Rat) * tz (l' + ten' - d + 1)) (sg := (sgI a : Rat)) hb ?_ ?_ ?_ ?_ ?_ e1 e2 e3
  · rw [sgI_rat ha, bR hb, N.hV]; grind
  · have k1 : (r' : Rat) = ((strip (r' : Int) 0).1 : Rat) * tz j := by
      have := congrArg (fun z : Int => (z : Rat)) j1
      simp only [Rat.intCast_mul, tz_natI] at this
      exact this
    have k2 : tz (l' + ten' + (cd (r' : Int) - d) - cd (strip (r' : Int) 0).1 + 1) = tz (l' + ten' - d + 1) * tz j := by
      rw [← tz_add]; congr 1; omega
    have k3 : (if a' > 0 then (1 : Int) else -1) = sgI a := by
      unfold sgI
      simp only [hsg]
    rw [k2, k3, Rat.intCast_mul]
    generalize ((strip (r' : Int) 0).1 : Rat) = s at *
    rw [k1]
    grind
  · rcases sgI_two a with ⟨h, _⟩ | ⟨h, _⟩
    · exact Or.inl h
    · exact Or.inr h
  · exact n3
  · exact n4
end Mine


namespace Mine
theorem tz_m8 : tz (-8) = 1 / 100000000 := by
  have h : tz (-8) * tz ((8 : Nat) : Int) = 1 := by rw [← tz_add]; exact tz_zero
  rw [tz_nat, show (10 : Rat) ^ 8 = 100000000 by decide +kernel] at h
  generalize tz (-8) = x at *
  grind
theorem powR_tz (x1 : Int) (k : Nat) : (tz x1) ^ k = tz (x1 * k) := by
  induction k with
  | zero => rw [Rat.pow_zero, show x1 * ((0 : Nat) : Int) = 0 by simp, tz_zero]
  | succ k ih => rw [Rat.pow_succ, ih, ← tz_add]; congr 1; rw [show ((k + 1 : Nat) : Int) = (k : Int) + 1 by omega, Int.mul_add, Int.mul_one]
theorem powR_mul (x y : Rat) (k : Nat) : (x * y) ^ k = x ^ k * y ^ k := by
  induction k with
  | zero => rw [Rat.pow_zero, Rat.pow_zero, Rat.pow_zero]; grind
  | succ k ih => rw [Rat.pow_succ, ih, Rat.pow_succ, Rat.pow_succ]; grind
theorem val_pow (x0 x1 : Int) (k : Nat) : (val (x0, x1)) ^ k = ((x0 ^ k : Int) : Rat) * tz (x1 * k) := by
  show ((x0 : Rat) * tz x1) ^ k = _
  rw [powR_mul, powR_tz, Rat.intCast_pow]
/-- the relative error of a far power -/
theorem raised_near {x0 x1 n d : Int} (hx : x0 ≠ 0) (hd : 1 ≤ d) (hn : 64 < n) (hn1 : n ≤ 130) :
    (raisedP x0 x1 n d).1 ≠ 0 ∧ ∃ c : Rat, ((raisedP x0 x1 n d).1 : Rat) * tz (raisedP x0 x1 n d).2 = ((x0 ^ n.toNat : Int) : Rat) * tz (x1 * n) * c ∧ 0 < c ∧
      1 - tz (-d) * (1 / 10000) ≤ c ∧ c ≤ 1 + tz (-d) * (1 / 10000) := by
  have hd1 : tz (-d) ≤ 1 := by rw [← tz_zero]; exact tz_mono (by omega)
  have hd0 := tz_pos (-d)
  have hε : (5 * tz (-d) * (1 / 100000000) : Rat) = 5 * tz (-(d + 8)) := by
    rw [show -(d + 8) = -d + -8 by omega, tz_add, tz_m8]; grind
  obtain ⟨c, h1, h2, h3⟩ := raised_rel (x0 := x0) (x1 := x1) (n := n) (show (0 : Int) ≤ d by omega) hn hε (by grind)
  obtain ⟨b1, b2⟩ := bern (by grind) (show n.toNat ≤ 130 by omega) (by grind) h2 h3
  have hc : 0 < c := by grind
  rw [val_pow, show ((n.toNat : Nat) : Int) = n by omega] at h1
  refine ⟨fun h0 => ?_, c, h1, hc, by grind, by grind⟩
  have e : val (raisedP x0 x1 n d) = 0 := by
    show ((raisedP x0 x1 n d).1 : Rat) * _ = 0
    rw [h0, Rat.intCast_zero, Rat.zero_mul]
  rw [e] at h1
  have k1 : ((x0 ^ n.toNat : Int) : Rat) ≠ 0 := fun h => pow_ne0 hx n.toNat (Rat.intCast_inj.mp (by rw [h]; rfl))
  have k2 := tz_pos (x1 * n)
  have k3 : ((x0 ^ n.toNat : Int) : Rat) * tz (x1 * n) ≠ 0 := fun h => by
    rcases Rat.mul_eq_zero.mp h with h | h
    · exact k1 h
    · grind
  rcases Rat.mul_eq_zero.mp h1.symm with h | h
  · exact k3 h
  · grind
theorem inv_near {c η : Rat} (hc : 0 < c) (h0 : 0 ≤ η) (h1 : η ≤ 1) (c1 : 1 - η * (1 / 10) ≤ c) (c2 : c ≤ 1 + η * (1 / 10)) : 1 - η ≤ c⁻¹ ∧ c⁻¹ ≤ 1 + η := by
  have hi : c * c⁻¹ = 1 := Rat.mul_inv_cancel _ (by grind)
  have hi0 : 0 < c⁻¹ := Rat.inv_pos.mpr hc
  have hηη := Rat.mul_le_mul_of_nonneg_left h1 h0
  have a1 := Rat.mul_le_mul_of_nonneg_left c2 (show 0 ≤ 1 - η by grind)
  have a2 := Rat.mul_le_mul_of_nonneg_left c1 (show 0 ≤ 1 + η by grind)
  have hsq : 0 ≤ η * η := Rat.mul_nonneg h0 h0
  have b1 : (1 - η) * c ≤ 1 := by
    have : (1 - η) * (1 + η * (1 / 10)) = 1 - η * (9 / 10) - η * η * (1 / 10) := by grind
    grind
  have b2 : 1 ≤ (1 + η) * c := by
    have : (1 + η) * (1 - η * (1 / 10)) = 1 + η * (9 / 10) - η * η * (1 / 10) := by grind
    grind
  have d1 := Rat.mul_le_mul_of_nonneg_right b1 (Rat.le_of_lt hi0)
  have d2 := Rat.mul_le_mul_of_nonneg_right b2 (Rat.le_of_lt hi0)
  have f1 : (1 - η) * c * c⁻¹ = 1 - η := by grind
  have f2 : (1 + η) * c * c⁻¹ = 1 + η := by grind
  rw [f1] at d1
  rw [f2] at d2
  grind
theorem intR_natAbs (m : Int) : ((m.natAbs : Nat) : Int) = sgI m * m := by unfold sgI; split <;> omega
theorem sgI_sq (m : Int) : ((sgI m : Int) : Rat) * ((sgI m : Int) : Rat) = 1 := by
  rcases sgI_two m with ⟨h, _⟩ | ⟨h, _⟩ <;> rw [h] <;> grind
theorem sgI_eq {m x : Int} {p : Rat} (hp : 0 < p) {q : Rat} (hq : 0 < q) (h : (m : Rat) * p = x * q) : sgI m = sgI x := by
  have e : m > 0 ↔ x > 0 := by
    have k1 : (0 : Rat) < (m : Rat) ↔ 0 < m := Rat.intCast_pos
    have k2 : (0 : Rat) < (x : Rat) ↔ 0 < x := Rat.intCast_pos
    constructor
    · intro g
      refine k2.mp (Rat.not_le.mp fun g' => ?_)
      have a1 := Rat.mul_pos (k1.mpr g) hp
      have a2 := Rat.mul_le_mul_of_nonneg_right g' (Rat.le_of_lt hq)
      rw [Rat.zero_mul] at a2
      grind
    · intro g
      refine k1.mp (Rat.not_le.mp fun g' => ?_)
      have a1 := Rat.mul_pos (k2.mpr g) hq
      have a2 := Rat.mul_le_mul_of_nonneg_right g' (Rat.le_of_lt hp)
      rw [Rat.zero_mul] at a2
      grind
  unfold sgI
  simp only [e]
/-- what the law asks of a far power -/
def FarP (a b d tp ten : Int) (o : Option (Int × Int)) : Prop := ∃ f0 f1, lround a b d (10 ^ 9) ten = some (f0, f1) ∧ f0 ≠ 0 ∧ cd f0 ≤ d + 1 ∧
      (tp + 1 < f1 + cd f0 - 1 → o = none) ∧ (f1 + cd f0 - 1 < -(tp + 1) → o = some (0, 0)) ∧
      (-(tp - 2) ≤ f1 + cd f0 - 1 → f1 + cd f0 - 1 ≤ tp - 2 → ∃ y0 y1, o = some (y0, y1) ∧ y0 ≠ 0 ∧ cd y0 ≤ d + 1 ∧ -tp - d ≤ y1 ∧ y1 ≤ tp ∧
        ∀ low, low ≤ ten → low ≤ y1 → low ≤ f1 + cd f0 - 1 - d + 1 → 
          -(b * 10 ^ (f1 + cd f0 - 1 - d + 1 - low).toNat) ≤ a * 10 ^ (ten - low).toNat - y0 * b * 10 ^ (y1 - low).toNat ∧ a * 10 ^ (ten - low).toNat - y0 * b * 10 ^ (y1 - low).toNat ≤ b * 10 ^ (f1 + cd f0 - 1 - d + 1 - low).toNat)
theorem law_far {x0 x1 n d tp : Int} (hx : x0 ≠ 0) (hd : 1 ≤ d) (ht : 0 ≤ tp) (hx1 : -60 ≤ x1) (hx2 : x1 ≤ 60) (hn0 : -130 ≤ n) (hn1 : n ≤ 130) (hn : ¬ (-64 ≤ n ∧ n ≤ 64)) (hA : cd (powA x0 n) ≤ 1250) (hB : cd (powB x0 n) ≤ 1250) :
    FarP (powA x0 n) (powB x0 n) d tp (x1 * n) (rpowP x0 x1 n d tp) := by
  have hη0 : 0 ≤ tz (-d) * (1 / 1000) := by have := tz_pos (-d); grind
  have hd1 : tz (-d) ≤ 1 := by rw [← tz_zero]; exact tz_mono (by omega)
  have hten : -10000 ≤ x1 * n ∧ x1 * n ≤ 10000 := by
    have h1 : (x1 * n).natAbs ≤ 60 * 130 := by rw [Int.natAbs_mul]; exact Nat.mul_le_mul (by omega) (by omega)
    omega
  unfold rpowP
  rw [if_neg (by rintro ⟨_, h⟩; exact hx h)]
  by_cases hneg : n < 0
  · rw [if_pos hneg, if_pos hneg]
    obtain ⟨hm, c, e, hc, c1, c2⟩ := raised_near (x1 := x1) hx hd (show 64 < -n by omega) (by omega)
    generalize raisedP x0 x1 (-n) d = me at *
    obtain ⟨m, ex⟩ := me
    dsimp only at hm e ⊢
    obtain ⟨i1, i2⟩ := inv_near (η := tz (-d) * (1 / 1000)) hc hη0 (by grind) (by grind) (by grind)
    rw [quot_lround0 hm hd ht]
    have hpw : x0 ^ (-n).toNat ≠ 0 := pow_ne0 hx _
    have hb0 : 0 < powB x0 n := by rw [powB_neg hneg]; omega
    have hsX := sgI_eq (m := m) (x := x0 ^ (-n).toNat) (tz_pos ex) (q := tz (x1 * -n) * c) (Rat.mul_pos (tz_pos _) hc) (by rw [e]; grind)
    have ha' : 1 * (if m > 0 then (1 : Int) else -1) ≠ 0 := by split <;> omega
    have ha : powA x0 n ≠ 0 := by rw [powA_neg hx hneg]; split <;> omega
    have key : ((1 * (if m > 0 then (1 : Int) else -1) : Int) : Rat) * tz (-ex) * (powB x0 n : Int) = (powA x0 n : Int) * tz (x1 * n) * ((m.natAbs : Nat) : Int) * c⁻¹ := by
      rw [powA_neg hx hneg, powB_neg hneg, intR_natAbs, intR_natAbs]
      show ((1 * sgI m : Int) : Rat) * tz (-ex) * ((sgI (x0 ^ (-n).toNat) * x0 ^ (-n).toNat : Int) : Rat) = ((1 * sgI (x0 ^ (-n).toNat) : Int) : Rat) * tz (x1 * n) * ((sgI m * m : Int) : Rat) * c⁻¹
      rw [hsX]
      have hs := sgI_sq (x0 ^ (-n).toNat)
      have hi : c * c⁻¹ = 1 := Rat.mul_inv_cancel _ (by grind)
      have t1 : tz ex * tz (-ex) = 1 := by rw [← tz_add, show ex + -ex = 0 by omega, tz_zero]
      have t2 : tz (x1 * -n) * tz (x1 * n) = 1 := by rw [← tz_add, Int.mul_neg, show -(x1 * n) + x1 * n = 0 by omega, tz_zero]
      rw [Int.one_mul, Rat.intCast_mul, Rat.intCast_mul]
      generalize ((sgI (x0 ^ (-n).toNat) : Int) : Rat) = s at *
      generalize ((x0 ^ (-n).toNat : Int) : Rat) = X at *
      generalize (m : Rat) = M at *
      generalize tz ex = E at *
      generalize tz (-ex) = E' at *
      generalize tz (x1 * -n) = T at *
      generalize tz (x1 * n) = T' at *
      have : M = X * T * c * E' := by
        have : M * E * E' = X * T * c * E' := by rw [e]
        grind
      subst this
      grind
    obtain ⟨hsg, V, W, N⟩ := near_of ha ha' hb0 (show (0 : Int) < ((m.natAbs : Nat) : Int) by omega) hd key i1 i2
    exact far_fin ha ha' hb0 (by omega) hd ht hsg N hA hB hten.1 hten.2
  · rw [if_neg hneg, if_neg hneg]
    obtain ⟨hm, c, e, hc, c1, c2⟩ := raised_near (x1 := x1) hx hd (show 64 < n by omega) (by omega)
    generalize raisedP x0 x1 n d = me at *
    obtain ⟨m, ex⟩ := me
    dsimp only at hm e ⊢
    rw [rreal_lround _ _ _ hd ht]
    have hb0 : 0 < powB x0 n := by rw [powB_pos (by omega)]; decide
    have ha : powA x0 n ≠ 0 := by rw [powA_pos (by omega)]; exact pow_ne0 hx _
    have key : (m : Rat) * tz ex * (powB x0 n : Int) = (powA x0 n : Int) * tz (x1 * n) * (1 : Int) * c := by
      rw [powA_pos (by omega), powB_pos (by omega), e]
      rw [Rat.intCast_one]; grind
    obtain ⟨hsg, V, W, N⟩ := near_of ha hm hb0 (show (0 : Int) < 1 by decide) hd key (by grind) (by grind)
    exact far_fin ha hm hb0 (by decide) hd ht hsg N hA hB hten.1 hten.2
end Mine


theorem Mine.off_prfar0 : True := by
  w_top off
  trivial

namespace Mine
section
variable {prog : Program} {w : World} {p : Program} {loose : List Str} {mean : ExcName → Option Value} {mg mb : Str → Option Value}
theorem min3 {A : Around} {E : Value → Shared → Prop} {s : Shared} {h₀ : Heap} {L : Addr} {m : Str → Option Value} {news : Led} {a b c : Int} {t u x : Tok} {Q : Value → Shared → Prop} (hh : A.handled = none) (F : Fr h₀ L s.heap m) (N : News h₀ L s.heap news)
    (h : ∀ t' h' tk, Fr h₀ L h' m → News h₀ L h' news → Q (.int (min (min a b) c) t') { s with heap := h', toks := tk }) : wpAny (model prog w) A (call (.builtin "min") [.int a t, .int b u, .int c x]) Q E s :=
  min_three_ints hh fun h' tk hk => by
    have k := fun t' => h t' h' tk (F.grownK hk) (N.grown hk)
    by_cases h1 : b < a <;> by_cases h2 : c < b <;> by_cases h3 : c < a <;> simp only [h1, h2, h3, if_true, if_false]
    all_goals (first | (rw [show min (min a b) c = c by omega] at k; exact k _) | (rw [show min (min a b) c = b by omega] at k; exact k _) | (rw [show min (min a b) c = a by omega] at k; exact k _))
theorem len_num0 {A : Around} {E : Value → Shared → Prop} {s : Shared} {Q : Value → Shared → Prop} {n : Int} {t : Tok} (h0 : n = 0) (h : Q (.int 1 (s.toks + 1)) { s with toks := s.toks + 1 + 1 }) : wpAny (model prog w) A (call (.builtin "len") [.str (Str.ofString (toString n)) t]) Q E s := by
  subst h0
  have e : (Str.ofString (toString (0 : Int))).length = 1 := by decide +kernel
  refine len_str ?_ ?_
  · rw [e]; decide
  · rw [e]; exact h
section
variable {A : Around} {E : Value → Shared → Prop} {s : Shared} {h₀ : Heap} {L X Y : Addr} {m : Str → Option Value} {news e : Led} {v : Value} {o : Option (Int × Int)} {x0 x1 y0 y1 : Int} {t1 t2 u1 u2 : Tok} {c c' : Nat} {Q : Value → Shared → Prop}
theorem optV_of {P : Params} {D : Addr} : OptV P [(D, pairObj y0 y1 t1 t2 c)] (.ref D) (some (y0, y1)) := optV_pair (y := (y0, y1)) rfl
theorem eqVP (O : OptV w.params e v o) (F : Fr h₀ L s.heap m) (K : (Mine.hd.heap_1 w.params).In h₀) (N : News h₀ L s.heap news) (he : ∀ p ∈ e, p ∈ news) (hm : (X, pairObj y0 y1 t1 t2 c) ∈ news) (hu : A.units + 64 < cLine)
    (h : Q (.bool (decide (o = some (y0, y1)))) s) : wpAny (model prog w) A (compareOp .Eq v (.ref X)) Q E s :=
  eqV O optV_of F K N he (fun p hp => by rw [List.mem_singleton.mp hp]; exact hm) hu h
theorem eqVN (O : OptV w.params e v o) (F : Fr h₀ L s.heap m) (K : (Mine.hd.heap_1 w.params).In h₀) (N : News h₀ L s.heap news) (he : ∀ p ∈ e, p ∈ news) (hu : A.units + 64 < cLine)
    (h : Q (.bool (decide (o = none))) s) : wpAny (model prog w) A (compareOp .Eq v .none) Q E s :=
  eqV O (optV_none rfl) F K N he (fun p hp => by cases hp) hu h
theorem eqPP0 (F : Fr h₀ L s.heap m) (K : (Mine.hd.heap_1 w.params).In h₀) (N : News h₀ L s.heap news) (hx : (X, pairObj x0 x1 t1 t2 c) ∈ news) (hy : (Y, pairObj y0 y1 u1 u2 c') ∈ news) (hne : x0 ≠ y0) (hu : A.units + 64 < cLine)
    (h : Q (.bool false) s) : wpAny (model prog w) A (compareOp .Eq (.ref X) (.ref Y)) Q E s := by
  refine eqVP (o := some (x0, x1)) optV_of F K N (fun p hp => by rw [List.mem_singleton.mp hp]; exact hx) hy hu ?_
  rw [decide_eq_false (fun h => by injection h with h; injection h with h1 h2; exact hne h1)]; exact h
theorem eqPP1 (F : Fr h₀ L s.heap m) (K : (Mine.hd.heap_1 w.params).In h₀) (N : News h₀ L s.heap news) (hx : (X, pairObj x0 x1 t1 t2 c) ∈ news) (hy : (Y, pairObj y0 y1 u1 u2 c') ∈ news) (h0 : x0 = y0) (h1 : x1 = y1) (hu : A.units + 64 < cLine)
    (h : Q (.bool true) s) : wpAny (model prog w) A (compareOp .Eq (.ref X) (.ref Y)) Q E s := by
  refine eqVP (o := some (x0, x1)) optV_of F K N (fun p hp => by rw [List.mem_singleton.mp hp]; exact hx) hy hu ?_
  rw [decide_eq_true (by rw [h0, h1])]; exact h
end

/-- a new pair, told by its parts -/
abbrev RetNP (news : Led) (y0 y1 : Int) (h₀ : Heap) (L : Addr) (m : Str → Option Value) (s : Shared) (Q : Value → Shared → Prop) : Prop :=
  ∀ (D : Addr) (t1 t2 : Tok) (c : Nat) (h' : Heap) (tk' : Nat), Fr h₀ L h' m → News h₀ L h' ((D, pairObj y0 y1 t1 t2 c) :: news) → AllLt D news → Q (.ref D) { s with heap := h', toks := tk' }
theorem roundS {f : Addr} {k : Nat} {news : Led} {vs : List Value} {o : Option (Int × Int)} {y0 y1 : Int} (C : Ctr prog w p loose mean mg mb f k news vs (RetON news o)) (ho : o = some (y0, y1)) : Ctr prog w p loose mean mg mb f k news vs (RetNP news y0 y1) := by
  subst ho
  unfold Ctr at *
  intro dp un gd cn cs a ccd cl outer A₀ base h₀ L m s Q E B F X₀ N T hk hd hu hret
  exact C dp un gd cn cs a ccd cl outer A₀ base h₀ L m s Q E B F X₀ N T hk hd hu ⟨fun ho => (by cases ho), fun y' ho => (by injection ho with ho; subst ho; exact hret)⟩
abbrev RetHS (news : Led) (y0 y1 : Int) (An : Led → Heap → Prop → Prop) (s : Shared) (Q : Value → Shared → Prop) : Prop :=
  ∀ (D : Addr) (t1 t2 : Tok) (c : Nat) (h' : Heap) (tk' : Nat), AllLt D news → An ((D, pairObj y0 y1 t1 t2 c) :: news) h' (Q (.ref D) { s with heap := h', toks := tk' })
theorem heardS {f : Addr} {k : Nat} {news : Led} {vs : List Value} {o : Option (Int × Int)} {y0 y1 : Int} (C : CtrS prog w p loose mean mg mb f k news vs (RetH news o)) (ho : o = some (y0, y1)) (hy : y0 ≠ 0) : CtrS prog w p loose mean mg mb f k news vs (RetHS news y0 y1) := by
  subst ho
  unfold CtrS at *
  intro dp un gd cn cs a ccd cl outer A₀ base h₀ L m s Q E B F X₀ N T XB TB D hk hd hu hret
  refine C dp un gd cn cs a ccd cl outer A₀ base h₀ L m s Q E B F X₀ N T XB TB D hk hd hu ⟨fun ho => (by cases ho), fun y' ho => ?_⟩
  injection ho with ho
  subst ho
  exact ⟨fun _ => hret, fun h => absurd (congrArg Prod.fst h) hy⟩
/-- an if that is passed by -/
def SPost (h₀ : Heap) (L : Addr) (s : Shared) (m₀ : Str → Option Value) (news : Led) (f : Flow) (s₂ : Shared) : Prop :=
  f = .next ∧ ∃ h' tk, s₂ = { s with heap := h', toks := tk } ∧ Fr h₀ L h' m₀ ∧ News h₀ L h' news
structure SW : Prop where
theorem spost {h₀ h' : Heap} {L : Addr} {s : Shared} {m₀ : Str → Option Value} {news news' : Led} {tk : Nat} (F : Fr h₀ L h' m₀) (N : News h₀ L h' news') (hs : ∀ p ∈ news, p ∈ news') :
    SPost h₀ L s m₀ news .next { s with heap := h', toks := tk } := ⟨rfl, h', tk, rfl, F, fun p hp => N p (hs p hp)⟩
theorem join_skip {A : Around} {E : Value → Shared → Prop} {Q : Flow → Shared → Prop} {s : Shared} {env : Env} {h₀ : Heap} {L : Addr} {t1 t2 : Expr} {b : Stmt} {p1 pos : Pos} {m₀ : Str → Option Value} {news : Led} (_ : SW)
    (F : Fr h₀ L s.heap m₀) (N : News h₀ L s.heap news) (h1 : wpAny (model prog w) A (exec (.If (.BoolOp .And [t1, t2] p1) [b] [] pos) env) (SPost h₀ L s m₀ news) E s)
    (h2 : ∀ h' tk, Fr h₀ L h' m₀ → News h₀ L h' news → Q .next { s with heap := h', toks := tk }) : wpAny (model prog w) A (exec (.If (.BoolOp .And [t1, t2] p1) [b] [] pos) env) Q E s := by
  refine wpAny_mono h1 (fun f s₂ q => ?_) fun _ _ x => x
  obtain ⟨rfl, h', tk, rfl, F', N'⟩ := q
  exact h2 h' tk F' N'
theorem rpow_zero {x1 n d tp : Int} (hd : 1 ≤ d) (hn : 64 < n) : rpowP 0 x1 n d tp = some (0, 0) := by
  have hd1 : tz (-d) ≤ 1 := by rw [← tz_zero]; exact tz_mono (by omega)
  have hε : (5 * tz (-d) * (1 / 100000000) : Rat) = 5 * tz (-(d + 8)) := by
    rw [show -(d + 8) = -d + -8 by omega, tz_add, tz_m8]; grind
  obtain ⟨c, h1, -, -⟩ := raised_rel (x0 := 0) (x1 := x1) (n := n) (show (0 : Int) ≤ d by omega) hn hε (by grind)
  rw [val_pow, Int.zero_pow (by omega), Rat.intCast_zero, Rat.zero_mul, Rat.zero_mul] at h1
  have h2 : (raisedP 0 x1 n d).1 = 0 := by
    rcases Rat.mul_eq_zero.mp h1 with h | h
    · exact Rat.intCast_inj.mp (by rw [h]; rfl)
    · have := tz_pos (raisedP 0 x1 n d).2; grind
  unfold rpowP
  rw [if_neg (by rintro ⟨h, _⟩; omega), if_neg (by omega), if_neg (by omega), h2, rreal_zero (by omega)]
theorem powA_zero {n : Int} (hn : 64 < n) : powA 0 n = 0 := by
  rw [powA_pos (by omega), Int.zero_pow (by omega)]
theorem cd_nat_abs (x : Int) : cd ((x.natAbs : Nat) : Int) = cd x := by unfold cd; rw [Int.natAbs_natCast]
end
end Mine

theorem Mine.lines_prfar0 : True := by
  k_with "call builtin:min" => (k_here; (with_reducible show wpAny _ _ (call (Value.builtin _) [Value.int _ _, Value.int _ _, Value.int _ _]) _ _ _); k_dflt (refine' Mine.min3 ?k0qq ?k1qq ?k2qq ?_; (case k0qq => with_unfolding_all rfl); (case k1qq => k_asm); (case k2qq => k_asm)); intro tzz' hzz' tkzz' Fzz' Nzz'; (try k_sweep))
  k_with "compareOp Eq" => (k_here; (with_reducible show wpAny _ _ (compareOp _ _ (Value.ref _)) _ _ _); k_dflt (refine' Mine.eqVP ?kOqq ?k1qq ?k2qq ?k3qq ?keqq ?kfqq ?kuqq ?_; (case kOqq => with_reducible assumption); (case k1qq => k_asm); (case k2qq => k_asm); (case k3qq => k_asm); (case keqq => (intro p9zz h9zz; repeat (first | exact List.mem_append_left _ h9zz | exact h9zz | apply List.mem_append_right | apply List.mem_cons_of_mem | exact List.mem_cons_self))); (case kfqq => k_extra "tb_rel"); (case kuqq => ktr_units)))
  k_with "compareOp Eq" => (k_here; (with_reducible show wpAny _ _ (compareOp _ _ Value.none) _ _ _); k_dflt (refine' Mine.eqVN ?kOqq ?k1qq ?k2qq ?k3qq ?keqq ?kuqq ?_; (case kOqq => with_reducible assumption); (case k1qq => k_asm); (case k2qq => k_asm); (case k3qq => k_asm); (case keqq => (intro p9zz h9zz; repeat (first | exact List.mem_append_left _ h9zz | exact h9zz | apply List.mem_append_right | apply List.mem_cons_of_mem | exact List.mem_cons_self))); (case kuqq => ktr_units)))
  k_with "compareOp Eq ref ref" => (k_here; (with_reducible show wpAny _ _ (compareOp _ (Value.ref _) (Value.ref _)) _ _ _); k_dflt (first | (refine' Mine.eqPP0 ?k1qq ?k2qq ?k3qq ?kxqq ?kyqq ?khqq ?kuqq ?_; (case k1qq => k_asm); (case k2qq => k_asm); (case k3qq => k_asm); (case kxqq => k_extra "tb_rel"); (case kyqq => k_extra "tb_rel"); (case khqq => first | with_reducible assumption | omega); (case kuqq => ktr_units)) | (refine' Mine.eqPP1 ?k1qq ?k2qq ?k3qq ?kxqq ?kyqq ?khqq ?kh2qq ?kuqq ?_; (case k1qq => k_asm); (case k2qq => k_asm); (case k3qq => k_asm); (case kxqq => k_extra "tb_rel"); (case kyqq => k_extra "tb_rel"); (case khqq => first | with_reducible assumption | omega); (case kh2qq => first | with_reducible assumption | omega); (case kuqq => ktr_units))))
  k_with "call ref" => (k_here; (with_reducible show wpAny _ _ (call (Value.ref 181) [_, _, _, _, _]) _ _ _); k_dflt (refine' Mine.use_ctr (Mine.roundS (Mine.ct_lround5 _ _ _ _ _ _ _ _ _ _ _ ?kh1qq ?kh2qq ?kh3qq ?kh4qq ?kh5qq) ?koqq) ?k1qq ?k2qq ?k3qq ?k4qq ?k5qq ?kKqq ?kdqq ?kuqq ?_; (case koqq => with_reducible assumption); (case k1qq => k_asm); (case k2qq => k_asm); (case k3qq => k_asm); (case k4qq => k_asm); (case k5qq => k_asm); (case kKqq => first | exact rfl | assumption); (case kdqq => ktr_room); (case kuqq => ktr_units); (case kh1qq => (refine' Mine.CB.le ?cbaqq ?cbbqq; (case cbaqq => k_extra "tb_start"); (case cbbqq => omega))); (case kh2qq => (refine' Mine.CB.le ?cbcqq ?cbdqq; (case cbcqq => k_extra "tb_start"); (case cbdqq => omega))); (case kh3qq => k_extra "ktr_rel"); (case kh4qq => first | assumption | omega); (case kh5qq => first | assumption | omega)); intro D9zz t9zz u9zz c9zz h9zz tk9zz F9zz N9zz l9zz; (try dsimp only); (try k_fold); (try k_sweep))
  k_with "call ref" => (k_here; (with_reducible show wpAny _ _ (call (Value.ref 202) (Value.int 4 _ :: _)) _ _ _); k_dflt (refine' Mine.use_ctrS (Mine.heardS (Mine.ct_heard4 _ _ _ _ _ _ _ _ _ _ _ _ _ _ ?kXqq ?kh1qq ?kh2qq ?kh3qq ?kh4qq ?kh5qq) ?koqq ?knqq) ?k1qq ?k2qq ?k3qq ?k4qq ?k5qq ?kXBqq ?kTBqq ?kDDqq ?kKqq ?kdqq ?kuqq ?_; (case k1qq => k_asm); (case k2qq => k_asm); (case k3qq => k_asm); (case k4qq => k_asm); (case kXqq => k_extra "tb_rel"); (case koqq => with_reducible assumption); (case knqq => with_reducible assumption); (case k5qq => k_asm); (case kXBqq => assumption); (case kTBqq => assumption); (case kDDqq => first | assumption | exact ktsDicts_nil); (case kKqq => first | exact rfl | assumption); (case kdqq => ktr_room); (case kuqq => ktr_units); (case kh1qq => first | assumption | omega); (case kh2qq => first | assumption | omega); (case kh3qq => first | assumption | omega); (case kh4qq => first | assumption | omega); (case kh5qq => first | assumption | omega)); intro D9zz t9zz u9zz c9zz h9zz tk9zz l9zz g9zz T9zz F9zz N9zz B9zz X9zz P9zz K9zz; (try dsimp only); (try k_fold); (try k_sweep))
  k_with "call builtin:len" => (k_here; (with_reducible show wpAny _ _ (call (Value.builtin _) [Value.str (PySem.Str.ofString (toString _)) _]) _ _ _); k_dflt (refine' Mine.len_num0 ?k0qq ?_; (case k0qq => first | exact rfl | assumption)))
  k_with "tb_rel" => first | (with_reducible assumption) | (with_reducible exact List.mem_cons_self) | ((with_reducible apply List.mem_cons_of_mem); k_extra "tb_rel") | ((with_reducible apply List.mem_append_left); k_extra "tb_rel") | ((with_reducible apply List.mem_append_right); k_extra "tb_rel")
  k_with "exec If BoolOp cons nil" => (k_here; (with_reducible show wpAny _ _ (exec (Stmt.If (Expr.BoolOp BoolOp.And [_, _] _) [_] [] _) _) _ _ _); (fail_if_success (with_reducible show wpAny _ _ _ (Mine.SPost _ _ _ _ _) _ _)); k_dflt (refine' Mine.join_skip ?kwqq ?k1qq ?k2qq ?_ ?_; (case kwqq => assumption); (case k1qq => k_asm); (case k2qq => k_asm)); (all_goals skip); rotate_left; (focus ((intro hzz' tkzz' Fzz' Nzz'); (try k_sweep))))
  trivial

theorem Mine.off_prfar : True := by
  w_top off
  trivial

namespace Mine
section
variable {prog : Program} {w : World} {p : Program} {loose : List Str} {mean : ExcName → Option Value} {mg mb : Str → Option Value}
theorem near_end {X Y Z : Int} (h : -Z ≤ X - Y ∧ X - Y ≤ Z) : (((X - Y).natAbs : Nat) : Int) ≤ Z := by omega
set_option maxHeartbeats 4000000 in
theorem ct_prfar_0 (news : Led) (X : Addr) (x0 x1 n d tp : Int) (t1 t2 u1 v q : Tok) (c : Nat) (hX : (X, pairObj x0 x1 t1 t2 c) ∈ news) (hx : CB x0 9) (hxl : -60 ≤ x1) (hxh : x1 ≤ 60) (hz : x0 = 0) (hn0 : 64 < n) (hn1 : n ≤ 130) (hd1 : 1 ≤ d) (hd9 : d ≤ 9) (ht0 : 3 ≤ tp) (ht1 : tp ≤ 40) :
    CtrS prog w p loose mean mg mb 209 40 news [.ref X, .int n u1, .int d v, .int tp q] (RetT news) := by
  unfold CtrS
  intro dp un gd cn cs a ccd cl outer A₀ base h₀ L m s Q E B F X₀ N T XB TB D hk hd hu hret
  have hlaw : rpowP x0 x1 n d tp = some (0, 0) := by rw [hz]; exact rpow_zero hd1 hn0
  have hA0 : powA x0 n = 0 := by rw [hz]; exact powA_zero hn0
  have hx64 : x0.natAbs < 2 ^ 64 := by omega
  have hx65 : ((x0.natAbs : Nat) : Int).natAbs < 2 ^ 64 := by rw [Int.natAbs_natCast]; exact hx64
  have hSW : SW := SW.mk
  have hJ : JW (Str.ofString "a") (powA x0 n) := JW.mk
  have hA : CB (powA x0 n) 1250 := cb_powA hx (by omega)
  have hB : CB (powB x0 n) 1250 := cb_powB hx (by omega)
  have hB0 : 0 < powB x0 n := powB_gt (by omega)
  obtain ⟨f0, f1, hf0, hf1, hfar⟩ : ∃ f0 f1 : Int, f0 = 0 ∧ f1 = 0 ∧ lround (powA x0 n) (powB x0 n) d (10 ^ Int.toNat 9) (x1 * n) = some (f0, f1) := ⟨0, 0, rfl, rfl, by rw [hA0, lround_zero]⟩
  have hc0 : CB f0 10 := by rw [hf0]; exact CB.of_lt (by decide)
  have hna : ((f0.natAbs : Nat) : Int) = 0 := by omega
  refine wpAny_call ?_
  k_dflt (refine' enter_try ?k1 ?k2 ?k3 ?k4 ?k5 ?XB ?TB ?D ?kA ?kF ?kK ?k6 ?k7 ?k8 ?k9 ?kB ?_ ?c2 ?c3 ?c4 ?c5; (case kA => exact rfl); (case kF => exact rfl); (case kK => assumption); (case k2 => k_asm); (case k1 => k_asm); (case XB => assumption); (case TB => assumption); (case D => assumption); (case k3 => k_asm); (case k4 => k_asm); (case k5 => k_asm); (case k6 => k_is); (case k7 => k_is); (case k8 => ktr_room); (case k9 => exact BindsTo.of_eq rfl); (case kB => exact locs rfl); (case c2 => exact rfl); (case c3 => exact rfl); (case c4 => exact rfl); (case c5 => decide); k_whole; intro g' L' h' FG' F' N' B' X' T' D'; (try dsimp only); (try k_lift B'); (try k_fold))
  k_steps
  all_goals first
    | exact retT_of hret (by assumption) (by k_asm) (by k_asm) (by intro p9 h9; repeat (first | exact h9 | apply List.mem_append_right | apply List.mem_cons_of_mem)) (by assumption) (by assumption) (by assumption) (by assumption) (by rw [hlaw]; exact decide_eq_true rfl)
    | exact absurd (show (f0 == 0 && f1 == 0) = false by assumption) (by rw [hf0, hf1]; decide)
    | exact jpost (by k_asm) (by k_asm) (by kcj_all) rfl (fun y h => by simp only [if_neg h]) (by unfold powA; rw [if_pos ⟨by assumption, by assumption, by assumption⟩])
    | exact jpost (by k_asm) (by k_asm) (by kcj_all) rfl (fun y h => by simp only [if_neg h]) (by unfold powA; rw [if_neg (by rintro ⟨_, _, _⟩; first | contradiction | omega)])
    | exact spost (by k_asm) (by k_asm) (by kcj_all)
    | exact absurd (by assumption) hz
set_option maxHeartbeats 4000000 in
theorem ct_prfar_a (news : Led) (X : Addr) (x0 x1 n d tp : Int) (t1 t2 u1 v q : Tok) (c : Nat) (hX : (X, pairObj x0 x1 t1 t2 c) ∈ news) (hx : CB x0 9) (hxl : -60 ≤ x1) (hxh : x1 ≤ 60) (hz : x0 ≠ 0) (hn0 : -130 ≤ n) (hn1 : n ≤ 130) (hn2 : ¬ (-64 ≤ n ∧ n ≤ 64)) (hd1 : 1 ≤ d) (hd9 : d ≤ 9) (ht0 : 3 ≤ tp) (ht1 : tp ≤ 40)
    (f0 f1 : Int) (hfar : lround (powA x0 n) (powB x0 n) d (10 ^ 9) (x1 * n) = some (f0, f1)) (hf0 : f0 ≠ 0) (hc : cd f0 ≤ d + 1) (hhi : tp + 1 < f1 + cd f0 - 1 → rpowP x0 x1 n d tp = none) (hlo : f1 + cd f0 - 1 < -(tp + 1) → rpowP x0 x1 n d tp = some (0, 0))
    (hmid : ¬ (-(tp - 2) ≤ f1 + cd f0 - 1 ∧ f1 + cd f0 - 1 ≤ tp - 2)) :
    CtrS prog w p loose mean mg mb 209 40 news [.ref X, .int n u1, .int d v, .int tp q] (RetT news) := by
  unfold CtrS
  intro dp un gd cn cs a ccd cl outer A₀ base h₀ L m s Q E B F X₀ N T XB TB D hk hd hu hret
  have hx64 : x0.natAbs < 2 ^ 64 := by have := hx.lt; omega
  have hx65 : ((x0.natAbs : Nat) : Int).natAbs < 2 ^ 64 := by rw [Int.natAbs_natCast]; exact hx64
  have hSW : SW := SW.mk
  have hJ : JW (Str.ofString "a") (powA x0 n) := JW.mk
  have hA : CB (powA x0 n) 1250 := cb_powA hx (by omega)
  have hB : CB (powB x0 n) 1250 := cb_powB hx (by omega)
  have hB0 : 0 < powB x0 n := powB_gt (by omega)
  have hfr : lround (powA x0 n) (powB x0 n) d (10 ^ Int.toNat 9) (x1 * n) = some (f0, f1) := hfar
  have hc0 : CB f0 10 := by unfold CB; omega
  have hna : 0 < ((f0.natAbs : Nat) : Int) := by omega
  rw [← cd_nat_abs f0] at hhi hlo hmid
  refine wpAny_call ?_
  k_dflt (refine' enter_try ?k1 ?k2 ?k3 ?k4 ?k5 ?XB ?TB ?D ?kA ?kF ?kK ?k6 ?k7 ?k8 ?k9 ?kB ?_ ?c2 ?c3 ?c4 ?c5; (case kA => exact rfl); (case kF => exact rfl); (case kK => assumption); (case k2 => k_asm); (case k1 => k_asm); (case XB => assumption); (case TB => assumption); (case D => assumption); (case k3 => k_asm); (case k4 => k_asm); (case k5 => k_asm); (case k6 => k_is); (case k7 => k_is); (case k8 => ktr_room); (case k9 => exact BindsTo.of_eq rfl); (case kB => exact locs rfl); (case c2 => exact rfl); (case c3 => exact rfl); (case c4 => exact rfl); (case c5 => decide); k_whole; intro g' L' h' FG' F' N' B' X' T' D'; (try dsimp only); (try k_lift B'); (try k_fold))
  k_steps
  all_goals first
    | exact retT_of hret (by assumption) (by k_asm) (by k_asm) (by intro p9 h9; repeat (first | exact h9 | apply List.mem_append_right | apply List.mem_cons_of_mem)) (by assumption) (by assumption) (by assumption) (by assumption) (by first | rfl | exact decide_eq_true (hlo (by omega)) | exact decide_eq_true (hhi (by omega)))
    | exact jpost (by k_asm) (by k_asm) (by kcj_all) rfl (fun y h => by simp only [if_neg h]) (by unfold powA; rw [if_pos ⟨by assumption, by assumption, by assumption⟩])
    | exact jpost (by k_asm) (by k_asm) (by kcj_all) rfl (fun y h => by simp only [if_neg h]) (by unfold powA; rw [if_neg (by rintro ⟨_, _, _⟩; first | contradiction | omega)])
    | exact spost (by k_asm) (by k_asm) (by kcj_all)
    | exact absurd (by assumption) hz
set_option maxHeartbeats 4000000 in
theorem ct_prfar_b (news : Led) (X : Addr) (x0 x1 n d tp : Int) (t1 t2 u1 v q : Tok) (c : Nat) (hX : (X, pairObj x0 x1 t1 t2 c) ∈ news) (hx : CB x0 9) (hxl : -60 ≤ x1) (hxh : x1 ≤ 60) (hz : x0 ≠ 0) (hn0 : -130 ≤ n) (hn1 : n ≤ 130) (hn2 : ¬ (-64 ≤ n ∧ n ≤ 64)) (hd1 : 1 ≤ d) (hd9 : d ≤ 9) (ht0 : 3 ≤ tp) (ht1 : tp ≤ 40)
    (f0 f1 : Int) (hfar : lround (powA x0 n) (powB x0 n) d (10 ^ 9) (x1 * n) = some (f0, f1)) (hf0 : f0 ≠ 0) (hc : cd f0 ≤ d + 1) (hm1 : -(tp - 2) ≤ f1 + cd f0 - 1) (hm2 : f1 + cd f0 - 1 ≤ tp - 2)
    (y0 y1 : Int) (hlaw : rpowP x0 x1 n d tp = some (y0, y1)) (hy0 : y0 ≠ 0) (hyc : cd y0 ≤ d + 1) (hyl : -tp - d ≤ y1) (hyh : y1 ≤ tp) (hten1 : -10000 ≤ x1 * n) (hten2 : x1 * n ≤ 10000)
    (hnear : ∀ low, low ≤ x1 * n → low ≤ y1 → low ≤ f1 + cd f0 - 1 - d + 1 →
      -(powB x0 n * 10 ^ (f1 + cd f0 - 1 - d + 1 - low).toNat) ≤ powA x0 n * 10 ^ (x1 * n - low).toNat - y0 * powB x0 n * 10 ^ (y1 - low).toNat ∧ powA x0 n * 10 ^ (x1 * n - low).toNat - y0 * powB x0 n * 10 ^ (y1 - low).toNat ≤ powB x0 n * 10 ^ (f1 + cd f0 - 1 - d + 1 - low).toNat) :
    CtrS prog w p loose mean mg mb 209 40 news [.ref X, .int n u1, .int d v, .int tp q] (RetT news) := by
  unfold CtrS
  intro dp un gd cn cs a ccd cl outer A₀ base h₀ L m s Q E B F X₀ N T XB TB D hk hd hu hret
  have hx64 : x0.natAbs < 2 ^ 64 := by have := hx.lt; omega
  have hx65 : ((x0.natAbs : Nat) : Int).natAbs < 2 ^ 64 := by rw [Int.natAbs_natCast]; exact hx64
  have hSW : SW := SW.mk
  have hJ : JW (Str.ofString "a") (powA x0 n) := JW.mk
  have hA : CB (powA x0 n) 1250 := cb_powA hx (by omega)
  have hB : CB (powB x0 n) 1250 := cb_powB hx (by omega)
  have hB0 : 0 < powB x0 n := powB_gt (by omega)
  have hfr : lround (powA x0 n) (powB x0 n) d (10 ^ Int.toNat 9) (x1 * n) = some (f0, f1) := hfar
  have hc0 : CB f0 10 := by unfold CB; omega
  have hna : 0 < ((f0.natAbs : Nat) : Int) := by omega
  rw [← cd_nat_abs f0] at hm1 hm2 hnear
  have hyc0 : CB y0 10 := by unfold CB; omega
  refine wpAny_call ?_
  k_dflt (refine' enter_try ?k1 ?k2 ?k3 ?k4 ?k5 ?XB ?TB ?D ?kA ?kF ?kK ?k6 ?k7 ?k8 ?k9 ?kB ?_ ?c2 ?c3 ?c4 ?c5; (case kA => exact rfl); (case kF => exact rfl); (case kK => assumption); (case k2 => k_asm); (case k1 => k_asm); (case XB => assumption); (case TB => assumption); (case D => assumption); (case k3 => k_asm); (case k4 => k_asm); (case k5 => k_asm); (case k6 => k_is); (case k7 => k_is); (case k8 => ktr_room); (case k9 => exact BindsTo.of_eq rfl); (case kB => exact locs rfl); (case c2 => exact rfl); (case c3 => exact rfl); (case c4 => exact rfl); (case c5 => decide); k_whole; intro g' L' h' FG' F' N' B' X' T' D'; (try dsimp only); (try k_lift B'); (try k_fold))
  k_steps
  all_goals first
    | exact retT_of hret (by assumption) (by k_asm) (by k_asm) (by intro p9 h9; repeat (first | exact h9 | apply List.mem_append_right | apply List.mem_cons_of_mem)) (by assumption) (by assumption) (by assumption) (by assumption) (by first | rfl | exact decide_eq_true (near_end (hnear _ (by omega) (by omega) (by omega))))
    | exact jpost (by k_asm) (by k_asm) (by kcj_all) rfl (fun y h => by simp only [if_neg h]) (by unfold powA; rw [if_pos ⟨by assumption, by assumption, by assumption⟩])
    | exact jpost (by k_asm) (by k_asm) (by kcj_all) rfl (fun y h => by simp only [if_neg h]) (by unfold powA; rw [if_neg (by rintro ⟨_, _, _⟩; first | contradiction | omega)])
    | exact spost (by k_asm) (by k_asm) (by kcj_all)
    | exact absurd (by assumption) hz
theorem ct_pr (news : Led) (X : Addr) (x0 x1 n d tp : Int) (t1 t2 u1 v q : Tok) (c : Nat) (hX : (X, pairObj x0 x1 t1 t2 c) ∈ news) (hx : CB x0 9) (hxl : -60 ≤ x1) (hxh : x1 ≤ 60) (hn0 : -130 ≤ n) (hn1 : n ≤ 130) (hd1 : 1 ≤ d) (hd9 : d ≤ 9) (ht0 : 3 ≤ tp) (ht1 : tp ≤ 40) :
    CtrS prog w p loose mean mg mb 209 40 news [.ref X, .int n u1, .int d v, .int tp q] (RetT news) := by
  by_cases hz : n < 0 ∧ x0 = 0
  · exact ct_prnone news X x0 x1 n d tp t1 t2 u1 v q c hX hx (by omega) hz.1 hz.2 hd1 hd9
  by_cases hs : -64 ≤ n ∧ n ≤ 64
  · exact ct_prnear news X x0 x1 n d tp t1 t2 u1 v q c hX hx hxl hxh hs.1 hs.2 hz hd1 hd9 ht0 ht1
  by_cases h0 : x0 = 0
  · exact ct_prfar_0 news X x0 x1 n d tp t1 t2 u1 v q c hX hx hxl hxh h0 (by omega) hn1 hd1 hd9 ht0 ht1
  have hten : -10000 ≤ x1 * n ∧ x1 * n ≤ 10000 := by
    have h1 : (x1 * n).natAbs ≤ 60 * 130 := by rw [Int.natAbs_mul]; exact Nat.mul_le_mul (by omega) (by omega)
    omega
  obtain ⟨f0, f1, h1, h2, h3, h4, h5, h6⟩ := law_far (x1 := x1) (tp := tp) h0 hd1 (by omega) hxl hxh hn0 hn1 hs (cb_powA hx (by omega)) (cb_powB hx (by omega))
  by_cases hm : -(tp - 2) ≤ f1 + cd f0 - 1 ∧ f1 + cd f0 - 1 ≤ tp - 2
  · obtain ⟨y0, y1, k1, k2, k3, k4, k5, k6⟩ := h6 hm.1 hm.2
    exact ct_prfar_b news X x0 x1 n d tp t1 t2 u1 v q c hX hx hxl hxh h0 hn0 hn1 hs hd1 hd9 ht0 ht1 f0 f1 h1 h2 h3 hm.1 hm.2 y0 y1 k1 k2 k3 k4 k5 hten.1 hten.2 k6
  · exact ct_prfar_a news X x0 x1 n d tp t1 t2 u1 v q c hX hx hxl hxh h0 hn0 hn1 hs hd1 hd9 ht0 ht1 f0 f1 h1 h2 h3 h4 h5 hm
end
end Mine

theorem Mine.lines_prfar : True := by
  k_with "call ref" => (k_here; (with_reducible show wpAny _ _ (call (Value.ref 209) _) _ _ _); k_dflt (refine' Mine.use_ctrS (Mine.ct_pr _ _ _ _ _ _ _ _ _ _ _ _ _ ?kXqq ?kh0qq ?kh1qq ?kh2qq ?kh3qq ?kh4qq ?kh5qq ?kh6qq ?kh7qq ?kh8qq) ?k1qq ?k2qq ?k3qq ?k4qq ?k5qq ?kXBqq ?kTBqq ?kDDqq ?kKqq ?kdqq ?kuqq ?_; (case k1qq => k_asm); (case k2qq => k_asm); (case k3qq => k_asm); (case k4qq => k_asm); (case k5qq => k_asm); (case kXBqq => assumption); (case kTBqq => assumption); (case kDDqq => first | assumption | exact ktsDicts_nil); (case kKqq => first | exact rfl | assumption); (case kdqq => ktr_room); (case kuqq => ktr_units); (case kXqq => k_extra "tb_rel"); (case kh0qq => assumption); (case kh1qq => first | assumption | omega); (case kh2qq => first | assumption | omega); (case kh3qq => first | assumption | omega); (case kh4qq => first | assumption | omega); (case kh5qq => first | assumption | omega); (case kh6qq => first | assumption | omega); (case kh7qq => first | assumption | omega); (case kh8qq => first | assumption | omega)); intro h9zz tk9zz g9zz T9zz F9zz N9zz B9zz X9zz P9zz K9zz; (try dsimp only); (try k_fold); (try k_sweep))
  trivial

theorem Mine.off_lawr : True := by
  w_top off
  trivial

namespace Mine
section
variable {prog : Program} {w : World} {p : Program} {loose : List Str} {mean : ExcName → Option Value} {mg mb : Str → Option Value}
theorem fr_back {g g' h : Heap} {L : Addr} {m : Str → Option Value} (T : KtsTurn [] g g') (F : Fr g' L h m) : Fr g L h m :=
  ⟨F.ns, fun b o e => F.keep b o (T.other b o e (by simp)), by rw [← T.size]; exact F.above⟩
theorem news_back {g g' h : Heap} {L : Addr} {news : Led} (T : KtsTurn [] g g') (N : News g' L h news) : News g L h news := fun p hp => ⟨(N p hp).1, (N p hp).2.1, by
  cases q : g.get? p.1 with
  | none => rfl
  | some o =>
    have := T.other _ _ q (by simp)
    rw [(N p hp).2.2] at this; cases this⟩
/-- the new ones lie apart -/
def Fresh (ext news : Led) : Prop := ∀ p ∈ ext, ∀ q ∈ news, q.1 ≠ p.1
theorem fresh_nil {news : Led} : Fresh [] news := fun _ h => nomatch h
theorem fresh_one {D : Addr} {o : Obj} {news : Led} (h : AllLt D news) : Fresh [(D, o)] news := fun p hp q hq => by
  rw [List.mem_singleton.mp hp]
  exact Nat.ne_of_lt (ktn_ltOf h q hq)
abbrev RetVF (w : World) (news : Led) (o : Option (Int × Int)) (h₀ : Heap) (L : Addr) (m : Str → Option Value) (s : Shared) (Q : Value → Shared → Prop) : Prop :=
  ∀ (v : Value) (ext : Led) (h' : Heap) (tk' : Nat), OptV w.params ext v o → Fresh ext news → Fr h₀ L h' m → News h₀ L h' (ext ++ news) → Q v { s with heap := h', toks := tk' }
theorem roundVF {f : Addr} {k : Nat} {news : Led} {vs : List Value} {o : Option (Int × Int)} (C : Ctr prog w p loose mean mg mb f k news vs (RetON news o)) : Ctr prog w p loose mean mg mb f k news vs (RetVF w news o) := by
  unfold Ctr at *
  intro dp un gd cn cs a ccd cl outer A₀ base h₀ L m s Q E B F X₀ N T hk hd hu hret
  exact C dp un gd cn cs a ccd cl outer A₀ base h₀ L m s Q E B F X₀ N T hk hd hu ⟨fun ho h' tk' F' N' => hret _ _ h' tk' (optV_none ho) fresh_nil F' N', fun y ho D t1 t2 c h' tk' F' N' l => hret _ _ h' tk' (optV_pair ho) (fresh_one l) F' N'⟩
/-- in the law's own frame the ground stays -/
theorem use_ctrV0 {f : Addr} {k : Nat} {news : Led} {vs : List Value} {o : Option (Int × Int)} {dp un : Nat} {gd : Option (List Code)} {cn : Str} {cs : Scope} {a : Addr} {ccd : Value} {cl : List (Str × Addr)} {A₀ : Around} {base h₀ : Heap} {L : Addr} {m : Str → Option Value} {s : Shared} {Q E : Value → Shared → Prop}
    (C : CtrS prog w p loose mean mg mb f k news vs (RetH news o)) (B : Below A₀ base [] h₀) (F : Fr h₀ L s.heap m) (X : (Mine.hd.heap_1 w.params).In h₀) (N : News h₀ L s.heap news) (T : Top p loose mean mg mb h₀) (XB : (Mine.hd.heap_1 w.params).In base) (TB : Top p loose mean mg mb base) (hk : cs.kind = .function) (hd : dp + k < recursionLimit) (hu : un + 8 * k < cLine)
    (hp : RetVF w news o h₀ L m s Q) :
    wpAny (model prog w) (ktrTop dp un gd cn cs L a ccd cl []) (call (.ref f) vs) Q E s :=
  use_ctrS C B F X N T XB TB ktsDicts_nil hk hd hu ⟨fun ho h' tk' h₀' T' F' N' _ _ _ _ => hp _ _ h' tk' (optV_none ho) fresh_nil (fr_back T' F') (news_back T' N'),
    fun y ho => ⟨fun _ D t1 t2 c h' tk' l h₀' T' F' N' _ _ _ _ => hp _ _ h' tk' (optV_pair ho) (fresh_one l) (fr_back T' F') (news_back T' N'), fun h0 h' tk' h₀' T' F' N' _ _ _ _ => hp _ _ h' tk' (optV_0 ho h0) fresh_nil (fr_back T' F') (news_back T' N')⟩⟩
theorem use_ctrT0 {f : Addr} {k : Nat} {news : Led} {vs : List Value} {dp un : Nat} {gd : Option (List Code)} {cn : Str} {cs : Scope} {a : Addr} {ccd : Value} {cl : List (Str × Addr)} {A₀ : Around} {base h₀ : Heap} {L : Addr} {m : Str → Option Value} {s : Shared} {Q E : Value → Shared → Prop}
    (C : CtrS prog w p loose mean mg mb f k news vs (RetT news)) (B : Below A₀ base [] h₀) (F : Fr h₀ L s.heap m) (X : (Mine.hd.heap_1 w.params).In h₀) (N : News h₀ L s.heap news) (T : Top p loose mean mg mb h₀) (XB : (Mine.hd.heap_1 w.params).In base) (TB : Top p loose mean mg mb base) (hk : cs.kind = .function) (hd : dp + k < recursionLimit) (hu : un + 8 * k < cLine)
    (hp : ∀ (h' : Heap) (tk' : Nat), Fr h₀ L h' m → News h₀ L h' news → Q (.bool true) { s with heap := h', toks := tk' }) :
    wpAny (model prog w) (ktrTop dp un gd cn cs L a ccd cl []) (call (.ref f) vs) Q E s :=
  use_ctrS C B F X N T XB TB ktsDicts_nil hk hd hu fun h' tk' h₀' T' F' N' _ _ _ _ => hp h' tk' (fr_back T' F') (news_back T' N')
section
variable {A : Around} {E : Value → Shared → Prop} {s : Shared} {h₀ : Heap} {L D D' : Addr} {m : Str → Option Value} {news : Led}
theorem optV_reads {P : Params} {e : Led} {v : Value} {o : Option (Int × Int)} (O : OptV P e v o) {h : Heap} (X : (Mine.hd.heap_1 P).In h₀) (F : Fr h₀ L h m) (N : News h₀ L h news) (he : ∀ p ∈ e, p ∈ news) : Reads h v (optD o) [] :=
  O h (X.keeps F.keep) fun p hp => (N p (he p hp)).1
theorem shaped4 (a b c d : Option (Int × Int)) : SeqAt.shaped (.list [optD a, optD b, optD c, optD d]) = true := by
  cases a <;> cases b <;> cases c <;> cases d <;> rfl
theorem eqv4 (a b c d : Option (Int × Int)) : PyData.eqv (.list [optD a, optD b, optD c, optD d]) (.list [optD a, optD b, optD c, optD d]) = true := by
  simp [PyData.eqv, PyData.eqvAll, optD_eqv]
theorem neL4 {v0 v1 v2 v3 u0 u1 u2 u3 : Value} {a b c d a' b' c' d' : Option (Int × Int)} {e0 e1 e2 e3 f0 f1 f2 f3 : Led} {n k : Nat} {Q : Value → Shared → Prop} (F : Fr h₀ L s.heap m) (X : (Mine.hd.heap_1 w.params).In h₀) (N : News h₀ L s.heap news)
    (hx : (D, ({ cls := .type "list", data := .seq #[v0, v1, v2, v3] n } : Obj)) ∈ news) (hy : (D', ({ cls := .type "list", data := .seq #[u0, u1, u2, u3] k } : Obj)) ∈ news)
    (O0 : OptV w.params e0 v0 a) (O1 : OptV w.params e1 v1 b) (O2 : OptV w.params e2 v2 c) (O3 : OptV w.params e3 v3 d)
    (U0 : OptV w.params f0 u0 a') (U1 : OptV w.params f1 u1 b') (U2 : OptV w.params f2 u2 c') (U3 : OptV w.params f3 u3 d')
    (h0 : ∀ p ∈ e0, p ∈ news) (h1 : ∀ p ∈ e1, p ∈ news) (h2 : ∀ p ∈ e2, p ∈ news) (h3 : ∀ p ∈ e3, p ∈ news)
    (g0 : ∀ p ∈ f0, p ∈ news) (g1 : ∀ p ∈ f1, p ∈ news) (g2 : ∀ p ∈ f2, p ∈ news) (g3 : ∀ p ∈ f3, p ∈ news)
    (ea : a = a') (eb : b = b') (ec : c = c') (ed : d = d') (hu : A.units + 64 < cLine) (h : Q (.bool false) s) : wpAny (model prog w) A (compareOp .NotEq (.ref D) (.ref D')) Q E s := by
  subst ea eb ec ed
  refine ne_dataH (reads_list_at (xs := [optD a, optD b, optD c, optD d]) (N _ hx).1 rfl rfl (readsAll_cons_val (optV_reads O0 X F N h0) (readsAll_cons_val (optV_reads O1 X F N h1) (readsAll_cons_val (optV_reads O2 X F N h2) (readsAll_cons_val (optV_reads O3 X F N h3) .nil)))))
    (reads_list_at (xs := [optD a, optD b, optD c, optD d]) (N _ hy).1 rfl rfl (readsAll_cons_val (optV_reads U0 X F N g0) (readsAll_cons_val (optV_reads U1 X F N g1) (readsAll_cons_val (optV_reads U2 X F N g2) (readsAll_cons_val (optV_reads U3 X F N g3) .nil))))) (shaped4 a b c d) (shaped4 a b c d) hu ?_
  rw [eqv4]; exact h
def Apart (D : Addr) (l : Led) : Prop := ∀ p ∈ l, p.1 ≠ D
theorem apart_lt {D : Addr} {l : Led} (h : ∀ p ∈ l, p.1 < D) : Apart D l := fun p hp => Nat.ne_of_lt (h p hp)
theorem append_ext {ext rest : Led} {vs : List Value} {v : Value} {c : Nat} {Q : Value → Shared → Prop} (F : Fr h₀ L s.heap m) (N : News h₀ L s.heap (ext ++ (D, W.listOf vs.toArray c) :: rest)) (fr : Fresh ext ((D, W.listOf vs.toArray c) :: rest)) (lt : Apart D rest) (hsz : vs.length ≤ 8)
    (h : ∀ h', Fr h₀ L h' m → News h₀ L h' ((D, W.listOf (vs ++ [v]).toArray (c + 1)) :: (ext ++ rest)) → Apart D (ext ++ rest) → Q .none { s with heap := h' }) : wpAny (model prog w) A (call (.builtin "list.append") [.ref D, v]) Q E s := by
  have z := N (D, W.listOf vs.toArray c) (List.mem_append_right _ List.mem_cons_self)
  have hz : vs.toArray.size ≤ sizeLine := by
    have : vs.toArray.size ≤ 8 := by simpa using hsz
    rw [sizeLine_eq]
    omega
  have ap : Apart D (ext ++ rest) := fun p hp => by
    rcases List.mem_append.mp hp with hp | hp
    · exact fun q => fr p hp _ List.mem_cons_self q.symm
    · exact lt p hp
  refine append_at (hsz := hz) z.1 fun h' hs ho' => ?_
  have ho'' : h'.get? D = some (W.listOf (vs ++ [v]).toArray (c + 1)) := by rw [ho']; simp [W.listOf]
  refine h h' (F.change hs z.2.1 z.2.2) (fun p hp => ?_) ap
  rcases List.mem_cons.mp hp with rfl | hp
  · exact ⟨ho'', z.2⟩
  · have y := N p (by
      rcases List.mem_append.mp hp with hp | hp
      · exact List.mem_append_left _ hp
      · exact List.mem_append_right _ (List.mem_cons_of_mem _ hp))
    exact ⟨hs.extBut _ _ (ap p hp) y.1, y.2⟩
theorem append_hd {rest : Led} {vs : List Value} {v : Value} {c : Nat} {Q : Value → Shared → Prop} (F : Fr h₀ L s.heap m) (N : News h₀ L s.heap ((D, W.listOf vs.toArray c) :: rest)) (lt : Apart D rest) (hsz : vs.length ≤ 8)
    (h : ∀ h', Fr h₀ L h' m → News h₀ L h' ((D, W.listOf (vs ++ [v]).toArray (c + 1)) :: rest) → Apart D rest → Q .none { s with heap := h' }) : wpAny (model prog w) A (call (.builtin "list.append") [.ref D, v]) Q E s :=
  append_ext (ext := []) F N fresh_nil lt hsz h
end
/-- the end of a turn of the comprehension -/
theorem comp_end {h₀ : Heap} {L I C D : Addr} {m : Str → Option Value} {s₁ : Shared} {oI oC oD : Obj} {rest : Value → Led → Prop} {y : Value} {h' : Heap} {tk : Nat} {ext news' : Led}
    (F : Fr h₀ L h' m) (N : News h₀ L h' (ext ++ (I, oI) :: (C, oC) :: (D, oD) :: news')) (fr : Fresh ext ((I, oI) :: (C, oC) :: (D, oD) :: news')) (off : LCg.Off3 I C D news') (r : rest y (ext ++ news')) :
    LCg.CompEnd h₀ L m s₁ I oI C oC D oD (fun _ => True) rest y { s₁ with heap := h', toks := tk } := by
  refine ⟨h', tk, ext ++ news', rfl, F, fun p hp => N p ?_, LCg.Off3.of fun p hp => ?_, trivial, r⟩
  · rcases List.mem_cons.mp hp with rfl | hp
    · exact List.mem_append_right _ List.mem_cons_self
    rcases List.mem_cons.mp hp with rfl | hp
    · exact List.mem_append_right _ (List.mem_cons_of_mem _ List.mem_cons_self)
    rcases List.mem_cons.mp hp with rfl | hp
    · exact List.mem_append_right _ (List.mem_cons_of_mem _ (List.mem_cons_of_mem _ List.mem_cons_self))
    rcases List.mem_append.mp hp with hp | hp
    · exact List.mem_append_left _ hp
    · exact List.mem_append_right _ (List.mem_cons_of_mem _ (List.mem_cons_of_mem _ (List.mem_cons_of_mem _ hp)))
  · rcases List.mem_append.mp hp with hp | hp
    · exact ⟨fun e => fr p hp _ List.mem_cons_self e.symm, fun e => fr p hp _ (List.mem_cons_of_mem _ List.mem_cons_self) e.symm, fun e => fr p hp _ (List.mem_cons_of_mem _ (List.mem_cons_of_mem _ List.mem_cons_self)) e.symm⟩
    · exact off.mem p hp
theorem off1_allLt {D : Addr} {news : Led} (h : LCg.Off1 D news) : ∀ q ∈ news, q.1 ≠ D := by
  induction news with
  | nil => intro q hq; cases hq
  | cons a r ih =>
    intro q hq
    rcases List.mem_cons.mp hq with rfl | hq
    · exact h.1
    · exact ih h.2 q hq
/-- an if that returns False is passed by -/
theorem join_skipF {A : Around} {E : Value → Shared → Prop} {Q : Flow → Shared → Prop} {s : Shared} {env : Env} {h₀ : Heap} {L : Addr} {t : Expr} {co : Const} {tn : Nat} {p1 p2 pos : Pos} {m₀ : Str → Option Value} {news : Led} (_ : SW)
    (F : Fr h₀ L s.heap m₀) (N : News h₀ L s.heap news) (h1 : wpAny (model prog w) A (exec (.If t [.Return (some (.Constant co tn p1)) p2] [] pos) env) (SPost h₀ L s m₀ news) E s)
    (h2 : ∀ h' tk, Fr h₀ L h' m₀ → News h₀ L h' news → Q .next { s with heap := h', toks := tk }) : wpAny (model prog w) A (exec (.If t [.Return (some (.Constant co tn p1)) p2] [] pos) env) Q E s := by
  refine wpAny_mono h1 (fun f s₂ q => ?_) fun _ _ x => x
  obtain ⟨rfl, h', tk, rfl, F', N'⟩ := q
  exact h2 h' tk F' N'
/-- due.append(..): its ways meet -/
def APost (w : World) (h₀ : Heap) (L : Addr) (s : Shared) (m₀ : Str → Option Value) (D : Addr) (vs : List Value) (c : Nat) (rest : Led) (o : Option (Int × Int)) (f : Flow) (s₂ : Shared) : Prop :=
  f = .next ∧ ∃ h' tk v ext, s₂ = { s with heap := h', toks := tk } ∧ OptV w.params ext v o ∧ Fr h₀ L h' m₀ ∧ News h₀ L h' ((D, W.listOf (vs ++ [v]).toArray (c + 1)) :: (ext ++ rest))
structure AW (o : Option (Int × Int)) : Prop where
theorem aw_of {ns : List Int} {M d tp x0 x1 y0 y1 : Int} (_ : lrealP (pickP ns 2 M) (pickP ns (2 + 1) (2 * tp + 1)) d = (x0, x1)) (_ : lrealP (pickP ns 4 M) (pickP ns (4 + 1) (2 * tp + 1)) d = (y0, y1)) : AW (rdivP x0 x1 y0 y1 d tp) := ⟨⟩
theorem div_zero {x0 x1 y0 y1 d tp : Int} (hd : 1 ≤ d) (ht : 0 ≤ tp) (h : y0 * 10 ^ (max 0 y1).toNat = 0) : none = rdivP x0 x1 y0 y1 d tp := ((law_div x0 x1 y0 y1 hd ht).trans (if_pos h)).symm
theorem div_pos {x0 x1 y0 y1 d tp : Int} (hd : 1 ≤ d) (ht : 0 ≤ tp) (h : y0 * 10 ^ (max 0 y1).toNat ≠ 0) (h2 : 0 < y0 * 10 ^ (max 0 y1).toNat) :
    lround (x0 * 10 ^ (max 0 x1).toNat * 10 ^ (max 0 (-y1)).toNat * 1) (10 ^ (max 0 (-x1)).toNat * ((y0 * 10 ^ (max 0 y1).toNat).natAbs : Nat)) d tp 0 = rdivP x0 x1 y0 y1 d tp := by
  rw [law_div x0 x1 y0 y1 hd ht, if_neg h, if_pos h2]
theorem div_neg {x0 x1 y0 y1 d tp : Int} (hd : 1 ≤ d) (ht : 0 ≤ tp) (h : y0 * 10 ^ (max 0 y1).toNat ≠ 0) (h2 : ¬ 0 < y0 * 10 ^ (max 0 y1).toNat) :
    lround (x0 * 10 ^ (max 0 x1).toNat * 10 ^ (max 0 (-y1)).toNat * -1) (10 ^ (max 0 (-x1)).toNat * ((y0 * 10 ^ (max 0 y1).toNat).natAbs : Nat)) d tp 0 = rdivP x0 x1 y0 y1 d tp := by
  rw [law_div x0 x1 y0 y1 hd ht, if_neg h, if_neg h2]
theorem apost {h₀ h' : Heap} {L D : Addr} {s : Shared} {m₀ : Str → Option Value} {vs : List Value} {c : Nat} {rest ext : Led} {v : Value} {o o' : Option (Int × Int)} {tk : Nat} (F : Fr h₀ L h' m₀) (N : News h₀ L h' ((D, W.listOf (vs ++ [v]).toArray (c + 1)) :: (ext ++ rest))) (O : OptV w.params ext v o') (e : o' = o) :
    APost w h₀ L s m₀ D vs c rest o .next { s with heap := h', toks := tk } := by
  subst e
  exact ⟨rfl, h', tk, v, ext, rfl, O, F, N⟩
theorem join_app {A : Around} {E : Value → Shared → Prop} {Q : Flow → Shared → Prop} {s : Shared} {env : Env} {h₀ : Heap} {L D : Addr} {f t b oe : Expr} {p1 p2 pos : Pos} {m₀ : Str → Option Value} {vs : List Value} {c : Nat} {rest : Led} {o : Option (Int × Int)} (_ : AW o)
    (F : Fr h₀ L s.heap m₀) (N : News h₀ L s.heap ((D, W.listOf vs.toArray c) :: rest)) (h1 : wpAny (model prog w) A (exec (.Expr (.Call f [.IfExp t b oe p2] [] p1) pos) env) (APost w h₀ L s m₀ D vs c rest o) E s)
    (h2 : ∀ h' tk v e9, OptV w.params e9 v o → Fr h₀ L h' m₀ → News h₀ L h' ((D, W.listOf (vs ++ [v]).toArray (c + 1)) :: (e9 ++ rest)) → Q .next { s with heap := h', toks := tk }) : wpAny (model prog w) A (exec (.Expr (.Call f [.IfExp t b oe p2] [] p1) pos) env) Q E s := by
  refine wpAny_mono h1 (fun f s₂ q => ?_) fun _ _ x => x
  obtain ⟨rfl, h', tk, v, e9, rfl, O, F', N'⟩ := q
  exact h2 h' tk v e9 O F' N'
theorem b2i_ite (c : Prop) [Decidable c] : b2i (decide c) = if c then 1 else 0 := by
  by_cases h : c
  · rw [if_pos h, decide_eq_true h]; rfl
  · rw [if_neg h, decide_eq_false h]; rfl
theorem law_cmpB (x0 x1 y0 y1 : Int) : rcmp x0 x1 y0 y1 = b2i (decide (y0 * 10 ^ (max 0 y1).toNat * 10 ^ (max 0 (-x1)).toNat < x0 * 10 ^ (max 0 x1).toNat * 10 ^ (max 0 (-y1)).toNat)) -
    b2i (decide (x0 * 10 ^ (max 0 x1).toNat * 10 ^ (max 0 (-y1)).toNat < y0 * 10 ^ (max 0 y1).toNat * 10 ^ (max 0 (-x1)).toNat)) := by
  rw [law_cmp, b2i_ite, b2i_ite]
theorem toi_pos {x0 x1 : Int} (h : 0 < x0 * 10 ^ (max 0 x1).toNat) : rtoi x0 x1 = (((x0 * 10 ^ (max 0 x1).toNat).natAbs : Nat) : Int).fdiv (10 ^ (max 0 (-x1)).toNat) := (law_toi x0 x1).trans (if_pos h)
theorem toi_neg {x0 x1 : Int} (h : ¬ 0 < x0 * 10 ^ (max 0 x1).toNat) : rtoi x0 x1 = -(((x0 * 10 ^ (max 0 x1).toNat).natAbs : Nat) : Int).fdiv (10 ^ (max 0 (-x1)).toNat) := (law_toi x0 x1).trans (if_neg h)
theorem wide_none {y e d tp : Int} (h0 : 0 ≤ y) (h1 : y < 2 * 10 ^ Int.toNat 40) (hd : 1 ≤ d) (ht : 0 ≤ tp) (ht2 : tp ≤ 40) (hm : y - 10 ^ Int.toNat 40 ≠ 0) (he : 200 < ((e.natAbs : Nat) : Int)) (hp : 0 < e) : rreal (y - 10 ^ Int.toNat 40) e d tp = none := by
  have h2 : y < 2 * 10 ^ 40 := h1
  show rreal (y - 10 ^ 40) e d tp = none
  rw [law_wide hd ht ht2 (by omega) (by omega) (by omega), if_pos ⟨hm, hp⟩]
theorem wide_zero {y e d tp : Int} (h0 : 0 ≤ y) (h1 : y < 2 * 10 ^ Int.toNat 40) (hd : 1 ≤ d) (ht : 0 ≤ tp) (ht2 : tp ≤ 40) (he : 200 < ((e.natAbs : Nat) : Int)) (hp : ¬ 0 < e) : rreal (y - 10 ^ Int.toNat 40) e d tp = some (0, 0) := by
  have h2 : y < 2 * 10 ^ 40 := h1
  show rreal (y - 10 ^ 40) e d tp = some (0, 0)
  rw [law_wide hd ht ht2 (by omega) (by omega) (by omega), if_neg (by rintro ⟨_, h⟩; exact hp h)]
theorem wide_nought {m e d tp : Int} (hd : 1 ≤ d) (hm : m = 0) : rreal m e d tp = some (0, 0) := by
  rw [hm, rreal_zero (by omega)]
/-- the walk halts where it meets this -/
def Hold (P : Prop) : Prop := P
structure HW (n : Nat) : Prop where
theorem hold_out (n : Nat) {P : Prop} (_ : HW n) (h : Hold P) : P := h
theorem hold_in {P : Prop} (h : P) : Hold P := h
/-- it ends and answers True -/
def TPost (h₀ : Heap) (L : Addr) (s : Shared) (f : Flow) (s' : Shared) : Prop := ∃ h' tk' m', f = .ret (.bool true) ∧ s' = { s with heap := h', toks := tk' } ∧ Fr h₀ L h' m'
theorem core_of {h₀ : Heap} {L : Addr} {m₀ : Str → Option Value} {M : Model} {A : Around} {c : Sem Flow} {Q : Flow → Shared → Prop} {E : Value → Shared → Prop} {s : Shared} (_ : Fr h₀ L s.heap m₀) (h : ∀ E', wpAny M A c (TPost h₀ L s) E' s) (hq : ∀ h' tk' m', Fr h₀ L h' m' → Q (.ret (.bool true)) { s with heap := h', toks := tk' }) : wpAny M A c Q E s :=
  wpAny_mono (h E) (fun f s' q => by obtain ⟨h', tk', m', rfl, rfl, F⟩ := q; exact hq h' tk' m' F) fun _ _ x => x
theorem tpost {h₀ : Heap} {L : Addr} {s : Shared} {b : Bool} {h' : Heap} {tk' : Nat} {m' : Str → Option Value} (F : Fr h₀ L h' m') (e : b = true) : TPost h₀ L s (.ret (.bool b)) { s with heap := h', toks := tk' } := ⟨h', tk', m', by rw [e], rfl, F⟩
theorem fdiv2_lo {y : Int} (h : 0 ≤ y) : -130 ≤ y.fdiv 2 := by rw [Int.fdiv_eq_ediv_of_nonneg _ (by decide)]; omega
theorem fdiv2_hi {y : Int} (h : y < 201) : y.fdiv 2 ≤ 130 := by rw [Int.fdiv_eq_ediv_of_nonneg _ (by decide)]; omega
theorem fmod4_lo (y : Int) : -130 ≤ y.fmod 4 := by rw [Int.fmod_eq_emod_of_nonneg _ (by decide)]; omega
theorem fmod4_hi (y : Int) : y.fmod 4 ≤ 130 := by rw [Int.fmod_eq_emod_of_nonneg _ (by decide)]; omega
theorem natAbs_pos0 {x : Int} (h : x ≠ 0) : 0 < ((x.natAbs : Nat) : Int) := by omega
end
end Mine

theorem Mine.lines_lawr : True := by
  k_with "ktr_rel" => first | omega | exact Int.pow_pos (by decide) | exact Int.mul_pos (Int.pow_pos (by decide)) (Int.pow_pos (by decide)) | exact Int.mul_pos (Int.pow_pos (by decide)) (Mine.natAbs_pos0 (by assumption))
  k_with "call ref" => (k_here; (with_reducible show wpAny _ _ (call (Value.ref 202) (Value.int 0 _ :: _)) _ _ _); k_dflt (refine' Mine.use_ctrV0 (Mine.ct_heard0 _ _ _ _ _ _ _ _ _ _ _ _ _ _ _ _ _ _ ?kXqq ?kYqq ?kh1qq ?kh2qq ?kh3qq ?kh4qq ?kh5qq ?kh6qq ?kh7qq ?kh8qq) ?k1qq ?k2qq ?k3qq ?k4qq ?k5qq ?kXBqq ?kTBqq ?kKqq ?kdqq ?kuqq ?_; (case k1qq => k_asm); (case k2qq => k_asm); (case k3qq => k_asm); (case k4qq => k_asm); (case k5qq => k_asm); (case kXBqq => assumption); (case kTBqq => assumption); (case kKqq => first | exact rfl | assumption); (case kdqq => ktr_room); (case kuqq => ktr_units); (case kXqq => k_extra "tb_rel"); (case kYqq => k_extra "tb_rel"); (case kh1qq => first | assumption | omega); (case kh2qq => first | assumption | omega); (case kh3qq => first | assumption | omega); (case kh4qq => first | assumption | omega); (case kh5qq => first | assumption | omega); (case kh6qq => first | assumption | omega); (case kh7qq => first | assumption | omega); (case kh8qq => first | assumption | omega)); intro v9zz ext9zz h9zz tk9zz O9zz fr9zz F9zz N9zz; (try dsimp only); (try k_fold); (try k_sweep))
  k_with "call ref" => (k_here; (with_reducible show wpAny _ _ (call (Value.ref 202) (Value.int 1 _ :: _)) _ _ _); k_dflt (refine' Mine.use_ctrV0 (Mine.ct_heard1 _ _ _ _ _ _ _ _ _ _ _ _ _ _ _ _ _ _ ?kXqq ?kYqq ?kh1qq ?kh2qq ?kh3qq ?kh4qq ?kh5qq ?kh6qq ?kh7qq ?kh8qq) ?k1qq ?k2qq ?k3qq ?k4qq ?k5qq ?kXBqq ?kTBqq ?kKqq ?kdqq ?kuqq ?_; (case k1qq => k_asm); (case k2qq => k_asm); (case k3qq => k_asm); (case k4qq => k_asm); (case k5qq => k_asm); (case kXBqq => assumption); (case kTBqq => assumption); (case kKqq => first | exact rfl | assumption); (case kdqq => ktr_room); (case kuqq => ktr_units); (case kXqq => k_extra "tb_rel"); (case kYqq => k_extra "tb_rel"); (case kh1qq => first | assumption | omega); (case kh2qq => first | assumption | omega); (case kh3qq => first | assumption | omega); (case kh4qq => first | assumption | omega); (case kh5qq => first | assumption | omega); (case kh6qq => first | assumption | omega); (case kh7qq => first | assumption | omega); (case kh8qq => first | assumption | omega)); intro v9zz ext9zz h9zz tk9zz O9zz fr9zz F9zz N9zz; (try dsimp only); (try k_fold); (try k_sweep))
  k_with "call ref" => (k_here; (with_reducible show wpAny _ _ (call (Value.ref 202) (Value.int 2 _ :: _)) _ _ _); k_dflt (refine' Mine.use_ctrV0 (Mine.ct_heard2 _ _ _ _ _ _ _ _ _ _ _ _ _ _ _ _ _ _ ?kXqq ?kYqq ?kh1qq ?kh2qq ?kh3qq ?kh4qq ?kh5qq ?kh6qq ?kh7qq ?kh8qq) ?k1qq ?k2qq ?k3qq ?k4qq ?k5qq ?kXBqq ?kTBqq ?kKqq ?kdqq ?kuqq ?_; (case k1qq => k_asm); (case k2qq => k_asm); (case k3qq => k_asm); (case k4qq => k_asm); (case k5qq => k_asm); (case kXBqq => assumption); (case kTBqq => assumption); (case kKqq => first | exact rfl | assumption); (case kdqq => ktr_room); (case kuqq => ktr_units); (case kXqq => k_extra "tb_rel"); (case kYqq => k_extra "tb_rel"); (case kh1qq => first | assumption | omega); (case kh2qq => first | assumption | omega); (case kh3qq => first | assumption | omega); (case kh4qq => first | assumption | omega); (case kh5qq => first | assumption | omega); (case kh6qq => first | assumption | omega); (case kh7qq => first | assumption | omega); (case kh8qq => first | assumption | omega)); intro v9zz ext9zz h9zz tk9zz O9zz fr9zz F9zz N9zz; (try dsimp only); (try k_fold); (try k_sweep))
  k_with "call ref" => (k_here; (with_reducible show wpAny _ _ (call (Value.ref 202) (Value.int 3 _ :: _)) _ _ _); k_dflt (refine' Mine.use_ctrV0 (Mine.ct_heard3 _ _ _ _ _ _ _ _ _ _ _ _ _ _ _ _ _ _ ?kXqq ?kYqq ?kh1qq ?kh2qq ?kh3qq ?kh4qq ?kh5qq ?kh6qq ?kh7qq ?kh8qq) ?k1qq ?k2qq ?k3qq ?k4qq ?k5qq ?kXBqq ?kTBqq ?kKqq ?kdqq ?kuqq ?_; (case k1qq => k_asm); (case k2qq => k_asm); (case k3qq => k_asm); (case k4qq => k_asm); (case k5qq => k_asm); (case kXBqq => assumption); (case kTBqq => assumption); (case kKqq => first | exact rfl | assumption); (case kdqq => ktr_room); (case kuqq => ktr_units); (case kXqq => k_extra "tb_rel"); (case kYqq => k_extra "tb_rel"); (case kh1qq => first | assumption | omega); (case kh2qq => first | assumption | omega); (case kh3qq => first | assumption | omega); (case kh4qq => first | assumption | omega); (case kh5qq => first | assumption | omega); (case kh6qq => first | assumption | omega); (case kh7qq => first | assumption | omega); (case kh8qq => first | assumption | omega)); intro v9zz ext9zz h9zz tk9zz O9zz fr9zz F9zz N9zz; (try dsimp only); (try k_fold); (try k_sweep))
  k_with "call ref" => (k_here; (with_reducible show wpAny _ _ (call (Value.ref 202) (Value.int 4 _ :: _)) _ _ _); k_dflt (refine' Mine.use_ctrV0 (Mine.ct_heard4 _ _ _ _ _ _ _ _ _ _ _ _ _ _ ?kXqq ?kh1qq ?kh2qq ?kh3qq ?kh4qq ?kh5qq) ?k1qq ?k2qq ?k3qq ?k4qq ?k5qq ?kXBqq ?kTBqq ?kKqq ?kdqq ?kuqq ?_; (case k1qq => k_asm); (case k2qq => k_asm); (case k3qq => k_asm); (case k4qq => k_asm); (case k5qq => k_asm); (case kXBqq => assumption); (case kTBqq => assumption); (case kKqq => first | exact rfl | assumption); (case kdqq => ktr_room); (case kuqq => ktr_units); (case kXqq => k_extra "tb_rel"); (case kh1qq => first | assumption | omega); (case kh2qq => first | assumption | omega); (case kh3qq => first | assumption | omega); (case kh4qq => first | assumption | omega); (case kh5qq => first | assumption | omega)); intro v9zz ext9zz h9zz tk9zz O9zz fr9zz F9zz N9zz; (try dsimp only); (try k_fold); (try k_sweep))
  k_with "call ref" => (k_here; (with_reducible show wpAny _ _ (call (Value.ref 202) (Value.int 5 _ :: _)) _ _ _); k_dflt (refine' Mine.use_ctrV0 (Mine.ct_heard5 _ _ _ _ _ _ _ _ _ ?kh1qq ?kh2qq) ?k1qq ?k2qq ?k3qq ?k4qq ?k5qq ?kXBqq ?kTBqq ?kKqq ?kdqq ?kuqq ?_; (case k1qq => k_asm); (case k2qq => k_asm); (case k3qq => k_asm); (case k4qq => k_asm); (case k5qq => k_asm); (case kXBqq => assumption); (case kTBqq => assumption); (case kKqq => first | exact rfl | assumption); (case kdqq => ktr_room); (case kuqq => ktr_units); (case kh1qq => first | assumption | (refine' Mine.CB.le ?cbaqq ?cbbqq; (case cbaqq => k_extra "tb_start"); (case cbbqq => omega))); (case kh2qq => first | assumption | omega)); intro v9zz ext9zz h9zz tk9zz O9zz fr9zz F9zz N9zz; (try dsimp only); (try k_fold); (try k_sweep))
  k_with "call ref" => (k_here; (with_reducible show wpAny _ _ (call (Value.ref 202) (Value.int 6 _ :: _)) _ _ _); k_dflt (refine' Mine.use_ctrV0 (Mine.ct_heard6 _ _ _ _ _ _ _ _ _ _ ?kh1qq ?kh2qq) ?k1qq ?k2qq ?k3qq ?k4qq ?k5qq ?kXBqq ?kTBqq ?kKqq ?kdqq ?kuqq ?_; (case k1qq => k_asm); (case k2qq => k_asm); (case k3qq => k_asm); (case k4qq => k_asm); (case k5qq => k_asm); (case kXBqq => assumption); (case kTBqq => assumption); (case kKqq => first | exact rfl | assumption); (case kdqq => ktr_room); (case kuqq => ktr_units); (case kh1qq => first | assumption | (refine' Mine.CB.le ?cbaqq ?cbbqq; (case cbaqq => k_extra "tb_start"); (case cbbqq => omega))); (case kh2qq => first | assumption | omega)); intro v9zz ext9zz h9zz tk9zz O9zz fr9zz F9zz N9zz; (try dsimp only); (try k_fold); (try k_sweep))
  k_with "call ref" => (k_here; (with_reducible show wpAny _ _ (call (Value.ref 181) [_, _, _, _, _]) _ _ _); k_dflt (refine' Mine.use_ctr (Mine.roundVF (Mine.ct_lround5 _ _ _ _ _ _ _ _ _ _ _ ?kh1qq ?kh2qq ?kh3qq ?kh4qq ?kh5qq)) ?k1qq ?k2qq ?k3qq ?k4qq ?k5qq ?kKqq ?kdqq ?kuqq ?_; (case k1qq => k_asm); (case k2qq => k_asm); (case k3qq => k_asm); (case k4qq => k_asm); (case k5qq => k_asm); (case kKqq => first | exact rfl | assumption); (case kdqq => ktr_room); (case kuqq => ktr_units); (case kh1qq => (refine' Mine.CB.le ?cbaqq ?cbbqq; (case cbaqq => k_extra "tb_start"); (case cbbqq => omega))); (case kh2qq => (refine' Mine.CB.le ?cbcqq ?cbdqq; (case cbcqq => k_extra "tb_start"); (case cbdqq => omega))); (case kh3qq => k_extra "ktr_rel"); (case kh4qq => first | assumption | omega); (case kh5qq => first | assumption | omega)); intro v9zz ext9zz h9zz tk9zz O9zz fr9zz F9zz N9zz; (try dsimp only); (try k_fold); (try k_sweep))
  k_with "call ref" => (k_here; (with_reducible show wpAny _ _ (call (Value.ref 181) [_, _, _, _]) _ _ _); k_dflt (refine' Mine.use_ctr (Mine.roundVF (Mine.ct_lround4 _ _ _ _ _ _ _ _ _ ?kh1qq ?kh2qq ?kh3qq ?kh4qq ?kh5qq)) ?k1qq ?k2qq ?k3qq ?k4qq ?k5qq ?kKqq ?kdqq ?kuqq ?_; (case k1qq => k_asm); (case k2qq => k_asm); (case k3qq => k_asm); (case k4qq => k_asm); (case k5qq => k_asm); (case kKqq => first | exact rfl | assumption); (case kdqq => ktr_room); (case kuqq => ktr_units); (case kh1qq => (refine' Mine.CB.le ?cbaqq ?cbbqq; (case cbaqq => k_extra "tb_start"); (case cbbqq => omega))); (case kh2qq => (refine' Mine.CB.le ?cbcqq ?cbdqq; (case cbcqq => k_extra "tb_start"); (case cbdqq => omega))); (case kh3qq => k_extra "ktr_rel"); (case kh4qq => first | assumption | omega); (case kh5qq => first | assumption | omega)); intro v9zz ext9zz h9zz tk9zz O9zz fr9zz F9zz N9zz; (try dsimp only); (try k_fold); (try k_sweep))
  k_with "call ref" => (k_here; (with_reducible show wpAny _ _ (call (Value.ref 209) _) _ _ _); k_dflt (refine' Mine.use_ctrT0 (Mine.ct_pr _ _ _ _ _ _ _ _ _ _ _ _ _ ?kXqq ?kh0qq ?kh1qq ?kh2qq ?kh3qq ?kh4qq ?kh5qq ?kh6qq ?kh7qq ?kh8qq) ?k1qq ?k2qq ?k3qq ?k4qq ?k5qq ?kXBqq ?kTBqq ?kKqq ?kdqq ?kuqq ?_; (case k1qq => k_asm); (case k2qq => k_asm); (case k3qq => k_asm); (case k4qq => k_asm); (case k5qq => k_asm); (case kXBqq => assumption); (case kTBqq => assumption); (case kKqq => first | exact rfl | assumption); (case kdqq => ktr_room); (case kuqq => ktr_units); (case kXqq => k_extra "tb_rel"); (case kh0qq => assumption); (case kh1qq => first | assumption | omega); (case kh2qq => first | assumption | omega); (case kh3qq => first | assumption | omega | exact Mine.fdiv2_lo (by assumption) | exact Mine.fdiv2_hi (by assumption) | exact Mine.fmod4_lo _ | exact Mine.fmod4_hi _); (case kh4qq => first | assumption | omega | exact Mine.fdiv2_lo (by assumption) | exact Mine.fdiv2_hi (by assumption) | exact Mine.fmod4_lo _ | exact Mine.fmod4_hi _); (case kh5qq => first | assumption | omega); (case kh6qq => first | assumption | omega); (case kh7qq => first | assumption | omega); (case kh8qq => first | assumption | omega)); intro h9zz tk9zz F9zz N9zz; (try dsimp only); (try k_fold); (try k_sweep))
  k_with "exec If" => (k_here; (with_reducible show wpAny _ _ (exec (Stmt.If _ [Stmt.Return (some (Expr.Constant _ _ _)) _] [] _) _) _ _ _); (fail_if_success (with_reducible show wpAny _ _ _ (Mine.SPost _ _ _ _ _) _ _)); k_dflt (refine' Mine.join_skipF ?kwqq ?k1qq ?k2qq ?_ ?_; (case kwqq => assumption); (case k1qq => k_asm); (case k2qq => k_asm)); (all_goals skip); rotate_left; (focus ((intro hzz' tkzz' Fzz' Nzz'); (try k_sweep))))
  k_with "exec If Compare cons nil" => (k_here; (with_reducible show wpAny _ _ (exec (Stmt.If _ [Stmt.Return (some (Expr.Constant _ _ _)) _] [] _) _) _ _ _); (fail_if_success (with_reducible show wpAny _ _ _ (Mine.SPost _ _ _ _ _) _ _)); k_dflt (refine' Mine.join_skipF ?kwqq ?k1qq ?k2qq ?_ ?_; (case kwqq => assumption); (case k1qq => k_asm); (case k2qq => k_asm)); (all_goals skip); rotate_left; (focus ((intro hzz' tkzz' Fzz' Nzz'); (try k_sweep))))
  k_with "exec If BoolOp cons nil" => (k_here; (with_reducible show wpAny _ _ (exec (Stmt.If _ [Stmt.Return (some (Expr.Constant _ _ _)) _] [] _) _) _ _ _); (fail_if_success (with_reducible show wpAny _ _ _ (Mine.SPost _ _ _ _ _) _ _)); k_dflt (refine' Mine.join_skipF ?kwqq ?k1qq ?k2qq ?_ ?_; (case kwqq => assumption); (case k1qq => k_asm); (case k2qq => k_asm)); (all_goals skip); rotate_left; (focus ((intro hzz' tkzz' Fzz' Nzz'); (try k_sweep))))
  k_with "exec If UnaryOp cons nil" => (k_here; (with_reducible show wpAny _ _ (exec (Stmt.If _ [Stmt.Return (some (Expr.Constant _ _ _)) _] [] _) _) _ _ _); (fail_if_success (with_reducible show wpAny _ _ _ (Mine.SPost _ _ _ _ _) _ _)); k_dflt (refine' Mine.join_skipF ?kwqq ?k1qq ?k2qq ?_ ?_; (case kwqq => assumption); (case k1qq => k_asm); (case k2qq => k_asm)); (all_goals skip); rotate_left; (focus ((intro hzz' tkzz' Fzz' Nzz'); (try k_sweep))))
  k_with "exec Expr" => (k_here; (with_reducible show wpAny _ _ (exec (Stmt.Expr (Expr.Call _ [Expr.IfExp _ _ _ _] _ _) _) _) _ _ _); (fail_if_success (with_reducible show wpAny _ _ _ (Mine.APost _ _ _ _ _ _ _ _ _ _) _ _)); k_dflt (refine' Mine.join_app ?kwqq ?k1qq ?k2qq ?_ ?_; (case kwqq => assumption); (case k1qq => k_asm); (case k2qq => assumption)); (all_goals skip); rotate_left; (focus ((intro hzz' tkzz' v9zz e9zz O9zz Fzz' Nzz'); (try k_sweep))))
  k_with "exec Expr Call" => (k_here; (with_reducible show wpAny _ _ (exec (Stmt.Expr (Expr.Call _ [Expr.IfExp _ _ _ _] _ _) _) _) _ _ _); (fail_if_success (with_reducible show wpAny _ _ _ (Mine.APost _ _ _ _ _ _ _ _ _ _) _ _)); k_dflt (refine' Mine.join_app ?kwqq ?k1qq ?k2qq ?_ ?_; (case kwqq => assumption); (case k1qq => k_asm); (case k2qq => assumption)); (all_goals skip); rotate_left; (focus ((intro hzz' tkzz' v9zz e9zz O9zz Fzz' Nzz'); (try k_sweep))))
  k_with "call builtin:list.append" => (k_here; (with_reducible show wpAny _ _ (call (Value.builtin _) [Value.ref _, _]) _ _ _); k_dflt (first | (refine' Mine.append_hd ?k1qq ?k2qq ?k4qq ?k5qq ?_; (case k1qq => k_asm); (case k2qq => assumption); (case k4qq => first | assumption | exact Mine.apart_lt (by assumption)); (case k5qq => exact Nat.le_of_ble_eq_true rfl)) | (refine' Mine.append_ext ?k1qq ?k2qq ?k3qq ?k4qq ?k5qq ?_; (case k1qq => k_asm); (case k2qq => assumption); (case k3qq => assumption); (case k4qq => first | assumption | exact Mine.apart_lt (by assumption)); (case k5qq => exact Nat.le_of_ble_eq_true rfl))); intro hzz' Fzz' Nzz' ap9zz; (try k_sweep))
  k_with "eval ListComp" => (k_here; k_dflt (refine LCg.ListComp_U (F₀ := by k_asm) (by with_unfolding_all rfl) (by decide) (by rfl) (by decide) (by rfl) ?_); k_dflt lcg_toSrc)
  k_with "CompSrc" => (k_here; k_dflt (refine LCg.CompSrc.range (by rfl) (by k_asm) (by k_asm) (by assumption) (by first | decide | rfl) (by first | rfl | decide) (by first | size_fits | exact Nat.le_of_ble_eq_true rfl) ?_; intro gzz'; lcg_lit))
  k_with "CompRest" => (with_unfolding_all first | (refine LCg.CompRest.succ ?_; intro vzz' Izz' oIzz' Czz' oCzz' Dzz' mzz' hzz' tkzz' Ezz' hvzz' hCzz' hxzz' Fzz' Nzz' offzz' nezz'; obtain ⟨t9zz', hv9zz'⟩ := hvzz'; (simp at hv9zz'); subst hv9zz') | refine LCg.CompRest.zero ?_)
  k_with "CompEnd" => (k_dflt (refine' Mine.comp_end ?k1qq ?k2qq ?k3qq ?k4qq ?_; (case k1qq => k_asm); (case k2qq => assumption); (case k3qq => assumption); (case k4qq => assumption)))
  k_with "compareOp NotEq ref ref" => (k_here; k_dflt (refine' Mine.neL4 ?k1qq ?k2qq ?k3qq ?kxqq ?kyqq ?o0qq ?o1qq ?o2qq ?o3qq ?u0qq ?u1qq ?u2qq ?u3qq ?h0qq ?h1qq ?h2qq ?h3qq ?g0qq ?g1qq ?g2qq ?g3qq ?eaqq ?ebqq ?ecqq ?edqq ?kuqq ?_; (case k1qq => k_asm); (case k2qq => k_asm); (case k3qq => k_asm); (case kxqq => exact List.mem_cons_self); (case kyqq => (repeat (first | (with_reducible exact List.mem_cons_self) | (with_reducible refine List.mem_cons_of_mem _ ?_) | (with_reducible refine List.mem_append_right _ ?_)))); (case o0qq => with_reducible assumption); (case o1qq => with_reducible assumption); (case o2qq => with_reducible assumption); (case o3qq => with_reducible assumption); (case u0qq => with_reducible assumption); (case u1qq => with_reducible assumption); (case u2qq => with_reducible assumption); (case u3qq => with_reducible assumption); (case h0qq => (intro p9zz h9zz; repeat (first | exact h9zz | exact List.mem_append_left _ h9zz | apply List.mem_append_right | apply List.mem_cons_of_mem))); (case h1qq => (intro p9zz h9zz; repeat (first | exact h9zz | exact List.mem_append_left _ h9zz | apply List.mem_append_right | apply List.mem_cons_of_mem))); (case h2qq => (intro p9zz h9zz; repeat (first | exact h9zz | exact List.mem_append_left _ h9zz | apply List.mem_append_right | apply List.mem_cons_of_mem))); (case h3qq => (intro p9zz h9zz; repeat (first | exact h9zz | exact List.mem_append_left _ h9zz | apply List.mem_append_right | apply List.mem_cons_of_mem))); (case g0qq => (intro p9zz h9zz; repeat (first | exact h9zz | exact List.mem_append_left _ h9zz | apply List.mem_append_right | apply List.mem_cons_of_mem))); (case g1qq => (intro p9zz h9zz; repeat (first | exact h9zz | exact List.mem_append_left _ h9zz | apply List.mem_append_right | apply List.mem_cons_of_mem))); (case g2qq => (intro p9zz h9zz; repeat (first | exact h9zz | exact List.mem_append_left _ h9zz | apply List.mem_append_right | apply List.mem_cons_of_mem))); (case g3qq => (intro p9zz h9zz; repeat (first | exact h9zz | exact List.mem_append_left _ h9zz | apply List.mem_append_right | apply List.mem_cons_of_mem))); (case eaqq => exact Mine.law_add _ _ _ _ (by omega) (by omega)); (case ebqq => exact Mine.law_sub _ _ _ _ (by omega) (by omega)); (case ecqq => exact Mine.law_mul _ _ _ _ (by omega) (by omega)); (case edqq => exact rfl); (case kuqq => ktr_units)))
  k_with "lcg_sub" => first | (with_reducible assumption) | (with_reducible exact List.mem_cons_self) | ((with_reducible refine List.mem_cons_of_mem _ ?_); k_extra "lcg_sub") | ((with_reducible refine List.mem_append_right _ ?_); k_extra "lcg_sub") | ((with_reducible refine List.mem_append_left _ ?_); k_extra "lcg_sub")
  k_with "tb_rel" => k_extra "lcg_sub"
  k_with "eval Name" => (k_here; (with_reducible show wpAny _ _ (eval (Expr.Name _ _) (envX _ _ _ _ _ _)) _ _ _); k_dflt (refine' nameX_C ?Nqq ?cqq ?mqq ?dqq ?_ ?aqq ?bqq; (case aqq => rfl); (case bqq => rfl); (case Nqq => k_asm); (case cqq => rfl); (case mqq => k_extra "lcg_sub"); (case dqq => k_asm); k_whole))
  k_with "eval Name" => (k_here; (with_reducible show wpAny _ _ (eval (Expr.Name _ _) (compEnvC _ _ _ _)) _ _ _); k_dflt (first | (refine' lcf_cell ?Nqq ?cqq ?mqq ?dqq ?_ ?aqq ?bqq; (case aqq => rfl); (case bqq => rfl); (case Nqq => k_asm); (case cqq => rfl); (case mqq => k_extra "lcg_sub"); (case dqq => k_asm); k_whole) | refine LCgL.ld_own (by k_asm) (by k_extra "lcg_sub") (by assumption) (by assumption) ?_))
  k_with "subscriptTail" => (k_here; (with_reducible show wpAny _ _ (subscriptTail _ _ (Value.ref _) (Value.int 0 _)) _ _ _); k_dflt (refine' Mine.pair_it0 ?k1qq ?k2qq ?_; (case k1qq => k_asm); (case k2qq => k_extra "lcg_sub")))
  k_with "subscriptTail" => (k_here; (with_reducible show wpAny _ _ (subscriptTail _ _ (Value.ref _) (Value.int 1 _)) _ _ _); k_dflt (refine' Mine.pair_it1 ?k1qq ?k2qq ?_; (case k1qq => k_asm); (case k2qq => k_extra "lcg_sub")))
  k_with "execs cons" => ((with_reducible show wpAny _ _ (execs (Stmt.Expr (Expr.Call _ [Expr.Call _ _ _ _] _ _) _ :: _) _) _ _ _); refine Mine.hold_out 1 (by assumption) ?_)
  trivial

/- The looks at the names of the text, without the library's twin of the text (3 MB of the compiled file). -/
local macro_rules | `(tactic| k_qdec) => `(tactic| decide +kernel)
set_option maxHeartbeats 8000000 in
theorem PySem.Challenge.cw_no0229_01_holds : PySem.Challenge.rw_no0229_01.Holds :=
  Mine.hd (by
  k_go0
  refine Mine.core_of (by assumption) ?_ ?_
  rotate_left
  · intro h9 tk9 m9 F9
    dsimp only
    w_end; (show GoodW _ _ _ _ _ (.ok (.ret (.bool _))) _); refine goodW_bool (by assumption) (by assumption) (raisesW_false ?_) ?_; (· wrow_none_raised); (· wrow_post)
  intro E9
  rename Heap.CodeRec _ _ _ => hz1
  clear hz1
  rename Dflts _ _ _ _ _ _ => hz2
  clear hz2
  show wpAny _ (ktrTop _ _ _ _ _ _ _ _ _ []) (execs _ (envX _ _ _ _ _ _)) _ _ _
  dsimp only
  have hSW : Mine.SW := Mine.SW.mk
  have hHW : Mine.HW 1 := Mine.HW.mk
  k_steps
  clear hHW
  have hAW := Mine.aw_of (by assumption) (by assumption)
  refine Mine.hold_in ?_
  k_steps
  all_goals first
    | exact Mine.spost (by k_asm) (by k_asm) (by intro p9 h9; repeat (first | exact h9 | apply List.mem_append_right | apply List.mem_cons_of_mem))
    | (refine Mine.tpost (by k_asm) (decide_eq_true ?_); first | (exfalso; omega) | exact Mine.wide_nought (by omega) (by assumption) | exact Mine.wide_none (by assumption) (by assumption) (by omega) (by omega) (by omega) (by assumption) (by assumption) (by assumption) | exact Mine.wide_zero (by assumption) (by assumption) (by omega) (by omega) (by omega) (by assumption) (by assumption) | exact Mine.law_frac _ _ (by omega) (by omega))
    | exact Mine.apost (by k_asm) (by assumption) (by assumption) (Mine.div_pos (by omega) (by omega) (by assumption) (by assumption))
    | exact Mine.apost (by k_asm) (by assumption) (by assumption) (Mine.div_neg (by omega) (by omega) (by assumption) (by assumption))
    | exact Mine.apost (ext := []) (by k_asm) (by assumption) (Mine.optV_none rfl) (Mine.div_zero (by omega) (by omega) (by assumption))
    | (refine absurd (a := Mine.rreal _ _ _ _ = _) ?_ (by assumption); exact Mine.rreal_lround _ _ _ (by omega) (by omega))
    | exact absurd (Mine.law_cmpB _ _ _ _) (by assumption)
    | exact absurd (Mine.toi_pos (by assumption)) (by assumption)
    | exact absurd (Mine.toi_neg (by assumption)) (by assumption))

