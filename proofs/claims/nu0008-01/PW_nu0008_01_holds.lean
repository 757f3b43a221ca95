import PyProof.Rows.All
import Wide.All
import OpenK.AllK
import Wide.FinOn
import PyProof.ListNew
import PyProof.ZipIter
import PySem.Challenge.RW_nu0008_01
open PySem PySem.W PySem.Calls PyProof.Rows PySem.Spec
set_option Elab.async false
set_option maxRecDepth 100000
set_option linter.unusedVariables false
set_option linter.unusedSimpArgs false
namespace Mine
section
/-- a statement of the top -/
noncomputable def topSt (i : Nat) : Stmt := (PySem.Challenge.pw_nu0008_01.main.body[i]?).getD (.Pass default)
/-- a statement of a class -/
noncomputable def inCls (s : Stmt) (i : Nat) : Stmt := ((@Stmt.casesOn (fun _ => List Stmt) s (fun _ _ _ _ _ _ _ _ _ _ => []) (fun _ _ _ _ _ _ _ _ _ _ => []) (fun _ _ _ b _ _ _ _ _ _ _ => b) (fun _ _ => []) (fun _ _ => []) (fun _ _ _ => []) (fun _ _ _ _ _ _ _ => []) (fun _ _ _ _ => []) (fun _ _ _ _ _ => []) (fun _ _ _ _ _ => []) (fun _ _ _ _ _ => []) (fun _ _ _ _ => []) (fun _ _ _ _ => []) (fun _ _ _ => []) (fun _ _ _ => []) (fun _ _ _ => []) (fun _ _ _ => []) (fun _ _ _ _ _ => []) (fun _ _ _ _ _ => []) (fun _ _ _ => []) (fun _ _ => []) (fun _ _ _ _ => []) (fun _ _ => []) (fun _ _ => []) (fun _ _ => []) (fun _ => []) (fun _ => []) (fun _ => []) : List Stmt)[i]?).getD (.Pass default)
/-- the object of a def -/
noncomputable def fnO {n : Str} {a : Arguments} {b : List Stmt} {d : List PySem.Expr} {r : Option PySem.Expr} {t : List TypeParam} {sc : Scope} {o : Option Scope} {s : Str} {p : Pos} (st : Stmt) (q : Str) (ds md : Value) (cd : Addr) (_ : st = .FunctionDef n a b d r t sc o s p) : Obj :=
  { cls := .type "function", data := .func { name := n, qualname := q, params := a, body := .stmts b, scope := sc, globals := 3, closure := [], defaults := ds, kwdefaults := .none, pyModule := md, code := .ref cd } }
/-- what a def's code keeps -/
noncomputable def fnC {n : Str} {a : Arguments} {b : List Stmt} {d : List PySem.Expr} {r : Option PySem.Expr} {t : List TypeParam} {sc : Scope} {o : Option Scope} {s : Str} {p : Pos} (st : Stmt) (q : Str) (_ : st = .FunctionDef n a b d r t sc o s p) : Obj :=
  { cls := .none, data := .func { name := n, qualname := q, params := a, body := .stmts b, scope := sc, globals := 0, closure := [], defaults := .none, kwdefaults := .none } }
noncomputable def hT (s : String) (k : Nat) : Value := Value.str (Str.ofString s) k
noncomputable def hD (P : Params) (s : String) (k : Nat) (v : Value) : DictEntry := { hash := PyData.keyHash P (Str.ofString s), key := Value.str (Str.ofString s) k, val := v }
noncomputable def q43 (P : Params) : Obj := { cls := Value.type "tuple", data := Data.seq #[] }
noncomputable def q44 (P : Params) : Obj := { cls := Value.none, data := Data.fields #[] }
noncomputable def q45 (P : Params) : Obj := { cls := Value.type "code", data := Data.fields #[hT "<module>" (nat_lit 182), hT "<module>" (nat_lit 183), hT "/claim/cut.py" (nat_lit 184), Value.int (nat_lit 1) (nat_lit 0), Value.int (nat_lit 0) (nat_lit 0), Value.int (nat_lit 0) (nat_lit 0), Value.int (nat_lit 0) (nat_lit 0), Value.int (nat_lit 0) (nat_lit 0), Value.ref (nat_lit 11), Value.bool false, Value.int (nat_lit 181) (nat_lit 0), Value.ref (nat_lit 12), Value.none, Value.none, Value.none, Value.none, Value.int (nat_lit 185) (nat_lit 0), Value.int (nat_lit 1) (nat_lit 0), hT "/claim/cut.py" (nat_lit 186)] }
noncomputable def q46 (P : Params) : Obj := { cls := Value.type "frame", slots := #[some (Value.ref (nat_lit 13)), some (Value.ref (nat_lit 3)), some (Value.ref (nat_lit 3)), none, some (hT "__main__" (nat_lit 164)), none, some (Value.ref (nat_lit 0))] }
noncomputable def q49 (P : Params) : Obj := { cls := Value.none, data := Data.dict #[{ hash := PyData.keyHash P (Str.ofString "type.__subclasses__.Exception.0"), key := Value.str (Str.ofString "type.__subclasses__.Exception.0") 214, val := Value.int 31 0 }, { hash := PyData.keyHash P (Str.ofString "type.__subclasses__.Exception.n"), key := Value.str (Str.ofString "type.__subclasses__.Exception.n") 215, val := Value.int 1 0 }] 2 }
noncomputable def q50 (P : Params) : Obj := { cls := Value.type "dict", data := Data.dict #[hD P "__name__" (nat_lit 165) (hT "outlinemill.errors" (nat_lit 187)), hD P "__doc__" (nat_lit 166) (Value.none), hD P "__package__" (nat_lit 167) (Value.none), hD P "__loader__" (nat_lit 168) (Value.builtin "__main__.__loader__#opaque"), hD P "__spec__" (nat_lit 169) (Value.none), hD P "__annotations__" (nat_lit 170) (Value.ref (nat_lit 6)), hD P "__builtins__" (nat_lit 171) (Value.ref (nat_lit 4)), hD P "__file__" (nat_lit 173) (hT "/claim/cut.py" (nat_lit 172)), hD P "__cached__" (nat_lit 174) (Value.none), hD P "MillError" (nat_lit 217) (Value.ref (nat_lit 31))] (nat_lit 10) }
noncomputable def q51 (P : Params) : Obj := { cls := Value.none, data := Data.fields #[Value.int (nat_lit 2) (nat_lit 0), Value.int (nat_lit 0) (nat_lit 0), Value.ref (nat_lit 20)] }
noncomputable def q52 (P : Params) : Obj := { cls := Value.type "tuple", data := Data.seq #[Value.type "Exception"] }
noncomputable def q53 (P : Params) : Obj := { cls := Value.type "builtin_function_or_method", data := Data.fields #[Value.builtin "type.__prepare__", Value.type "type"] }
noncomputable def q54 (P : Params) : Obj := { cls := Value.type "dict", data := Data.dict #[hD P "__module__" (nat_lit 196) (hT "outlinemill.errors" (nat_lit 187)), hD P "__qualname__" (nat_lit 198) (hT "MillError" (nat_lit 197)), hD P "__firstlineno__" (nat_lit 200) (Value.int (nat_lit 2) (nat_lit 199)), hD P "__init__" (nat_lit 208) (Value.ref (nat_lit 28)), hD P "__static_attributes__" (nat_lit 210) (Value.ref (nat_lit 29))] (nat_lit 5) }
noncomputable def q55 (P : Params) : Obj := { cls := Value.type "tuple", data := Data.seq #[] }
noncomputable def q56 (P : Params) : Obj := { cls := Value.none, data := Data.fields #[Value.int (nat_lit 4) (nat_lit 0), Value.int (nat_lit 4) (nat_lit 0), Value.ref (nat_lit 27)] }
noncomputable def q57 (P : Params) : Obj := { cls := Value.type "code", data := Data.fields #[hT "MillError" (nat_lit 191), hT "MillError" (nat_lit 192), hT "/claim/cut.py" (nat_lit 193), Value.int (nat_lit 2) (nat_lit 0), Value.int (nat_lit 0) (nat_lit 0), Value.int (nat_lit 0) (nat_lit 0), Value.int (nat_lit 0) (nat_lit 0), Value.int (nat_lit 0) (nat_lit 0), Value.ref (nat_lit 18), Value.bool false, Value.int (nat_lit 181) (nat_lit 0), Value.ref (nat_lit 19), Value.none, Value.none, Value.none, Value.none, Value.int (nat_lit 194) (nat_lit 0), Value.int (nat_lit 2) (nat_lit 0), hT "/claim/cut.py" (nat_lit 195)] }
noncomputable def q58 (P : Params) : Obj := { cls := Value.type "frame", slots := #[some (Value.ref (nat_lit 20)), some (Value.ref (nat_lit 3)), some (Value.ref (nat_lit 17)), none, some (hT "outlinemill.errors" (nat_lit 187)), none, some (Value.ref (nat_lit 0))] }
noncomputable def q59 (P : Params) : Obj := { cls := Value.type "tuple", data := Data.seq #[] }
noncomputable def q60 (P : Params) : Obj := { cls := Value.none, data := Data.fields #[] }
noncomputable def q61 (P : Params) : Obj := { cls := Value.type "tuple", data := Data.seq #[Value.str (Str.ofString "self") 204, Value.str (Str.ofString "message") 205] }
noncomputable def q62 (P : Params) : Obj := { cls := Value.type "tuple", data := Data.seq #[] }
noncomputable def q63 (_ : Params) : Obj := fnC (inCls (topSt (nat_lit 1)) (nat_lit 0)) (Str.ofString "MillError.__init__") rfl
noncomputable def q64 (P : Params) : Obj := { cls := Value.type "code", data := Data.fields #[Value.str (Str.ofString "__init__") 201, Value.str (Str.ofString "MillError.__init__") 202, Value.str (Str.ofString "/claim/cut.py") 203, Value.int 4 0, Value.int 2 0, Value.int 0 0, Value.int 0 0, Value.int 3 0, Value.ref 22, Value.bool true, Value.int 181 0, Value.ref 23, Value.none, Value.ref 24, Value.ref 25, Value.ref 26, Value.int 206 0, Value.int 4 0, Value.str (Str.ofString "/claim/cut.py") 207] }
noncomputable def q65 (_ : Params) : Obj := fnO (inCls (topSt 1) 0) (Str.ofString "MillError.__init__") (Value.none) (Value.str (Str.ofString "outlinemill.errors") 187) 27 rfl
noncomputable def q66 (P : Params) : Obj := { cls := Value.type "tuple", data := Data.seq #[Value.str (Str.ofString "message") 209] }
noncomputable def q67 (P : Params) : Obj := { cls := Value.type "dict", data := Data.dict #[{ hash := PyData.keyHash P (Str.ofString "__module__"), key := Value.str (Str.ofString "__module__") 196, val := Value.str (Str.ofString "outlinemill.errors") 187 }, { hash := PyData.keyHash P (Str.ofString "__firstlineno__"), key := Value.str (Str.ofString "__firstlineno__") 200, val := Value.int 2 199 }, { hash := PyData.keyHash P (Str.ofString "__init__"), key := Value.str (Str.ofString "__init__") 208, val := Value.ref 28 }, { hash := PyData.keyHash P (Str.ofString "__static_attributes__"), key := Value.str (Str.ofString "__static_attributes__") 210, val := Value.ref 29 }, { hash := PyData.keyHash P (Str.ofString "__weakref__"), key := Value.str (Str.ofString "__weakref__") 212, val := Value.ref 32 }, { hash := PyData.keyHash P (Str.ofString "__doc__"), key := Value.str (Str.ofString "__doc__") 213, val := Value.none }] 3 }
noncomputable def q68 (P : Params) : Obj := { cls := Value.type "type", data := Data.cls { name := Str.ofString "MillError", bases := [Value.type "Exception"], mro := [Value.ref (nat_lit 31), Value.type "Exception", Value.type "BaseException", Value.type "object"], ns := (nat_lit 30), qualname := Str.ofString "MillError" }, slots := #[some (Value.ref (nat_lit 15)), none, some (hT "MillError" (nat_lit 189)), some (hT "MillError" (nat_lit 197)), some (Value.builtin "Exception.__new__"), some (Value.bool true)] }
noncomputable def q69 (P : Params) : Obj := { cls := Value.type "getset_descriptor", data := Data.fields #[Value.str (Str.ofString "__weakref__") 211, Value.ref 31, Value.builtin "ExceptionGroup.__weakref__", Value.none] }
noncomputable def q70 (P : Params) : Obj := { cls := Value.type "super", data := Data.fields #[Value.ref (nat_lit 31), Value.ref (nat_lit 31), Value.ref (nat_lit 31)] }
noncomputable def q71 (P : Params) : Obj := { cls := Value.type "builtin_function_or_method", data := Data.fields #[Value.builtin "object.__init_subclass__", Value.ref (nat_lit 31)] }
noncomputable def q72 (P : Params) : Obj := { cls := Value.type "dict", data := Data.dict #[hD P "__name__" (nat_lit 165) (hT "outlinemill.scan" (nat_lit 234)), hD P "__doc__" (nat_lit 166) (Value.none), hD P "__package__" (nat_lit 167) (Value.none), hD P "__loader__" (nat_lit 168) (Value.builtin "__main__.__loader__#opaque"), hD P "__spec__" (nat_lit 169) (Value.none), hD P "__annotations__" (nat_lit 170) (Value.ref (nat_lit 6)), hD P "__builtins__" (nat_lit 171) (Value.ref (nat_lit 4)), hD P "__file__" (nat_lit 173) (hT "/claim/cut.py" (nat_lit 172)), hD P "__cached__" (nat_lit 174) (Value.none), hD P "MillError" (nat_lit 217) (Value.ref (nat_lit 31)), hD P "SizeFault" (nat_lit 233) (Value.ref (nat_lit 44)), hD P "RULES" (nat_lit 238) (Value.ref (nat_lit 47)), hD P "comes_behind" (nat_lit 246) (Value.ref (nat_lit 54)), hD P "crossings" (nat_lit 258) (Value.ref (nat_lit 61)), hD P "is_inside" (nat_lit 266) (Value.ref (nat_lit 68)), hD P "winding_at" (nat_lit 278) (Value.ref (nat_lit 75)), hD P "step_of" (nat_lit 286) (Value.ref (nat_lit 82))] (nat_lit 17) }
noncomputable def q73 (P : Params) : Obj := { cls := Value.none, data := Data.fields #[Value.int (nat_lit 2) (nat_lit 0), Value.int (nat_lit 0) (nat_lit 0), Value.ref (nat_lit 20), Value.int (nat_lit 6) (nat_lit 0), Value.int (nat_lit 0) (nat_lit 0), Value.ref (nat_lit 40), Value.int (nat_lit 10) (nat_lit 0), Value.int (nat_lit 0) (nat_lit 0), Value.ref (nat_lit 53), Value.int (nat_lit 12) (nat_lit 0), Value.int (nat_lit 0) (nat_lit 0), Value.ref (nat_lit 60), Value.int (nat_lit 22) (nat_lit 0), Value.int (nat_lit 0) (nat_lit 0), Value.ref (nat_lit 67), Value.int (nat_lit 24) (nat_lit 0), Value.int (nat_lit 0) (nat_lit 0), Value.ref (nat_lit 74), Value.int (nat_lit 30) (nat_lit 0), Value.int (nat_lit 0) (nat_lit 0), Value.ref (nat_lit 81)] }
noncomputable def q74 (P : Params) : Obj := { cls := Value.type "type", data := Data.cls { name := Str.ofString "MillError", bases := [Value.type "Exception"], mro := [Value.ref 31, Value.type "Exception", Value.type "BaseException", Value.type "object"], ns := 30, qualname := Str.ofString "MillError", subclasses := [Value.ref 44] }, slots := #[some (Value.ref 15), none, some (Value.str (Str.ofString "MillError") 189), some (Value.str (Str.ofString "MillError") 197), some (Value.builtin "Exception.__new__"), some (Value.bool true)] }
noncomputable def q75 (P : Params) : Obj := { cls := Value.type "tuple", data := Data.seq #[Value.ref 31] }
noncomputable def q76 (P : Params) : Obj := { cls := Value.type "builtin_function_or_method", data := Data.fields #[Value.builtin "type.__prepare__", Value.type "type"] }
noncomputable def q77 (P : Params) : Obj := { cls := Value.type "dict", data := Data.dict #[hD P "__module__" (nat_lit 225) (hT "outlinemill.errors" (nat_lit 187)), hD P "__qualname__" (nat_lit 227) (hT "SizeFault" (nat_lit 226)), hD P "__firstlineno__" (nat_lit 229) (Value.int (nat_lit 6) (nat_lit 228)), hD P "__static_attributes__" (nat_lit 230) (Value.ref (nat_lit 42))] (nat_lit 4) }
noncomputable def q78 (P : Params) : Obj := { cls := Value.type "tuple", data := Data.seq #[] }
noncomputable def q79 (P : Params) : Obj := { cls := Value.none, data := Data.fields #[] }
noncomputable def q80 (P : Params) : Obj := { cls := Value.type "code", data := Data.fields #[hT "SizeFault" (nat_lit 220), hT "SizeFault" (nat_lit 221), hT "/claim/cut.py" (nat_lit 222), Value.int (nat_lit 6) (nat_lit 0), Value.int (nat_lit 0) (nat_lit 0), Value.int (nat_lit 0) (nat_lit 0), Value.int (nat_lit 0) (nat_lit 0), Value.int (nat_lit 0) (nat_lit 0), Value.ref (nat_lit 38), Value.bool false, Value.int (nat_lit 181) (nat_lit 0), Value.ref (nat_lit 39), Value.none, Value.none, Value.none, Value.none, Value.int (nat_lit 223) (nat_lit 0), Value.int (nat_lit 6) (nat_lit 0), hT "/claim/cut.py" (nat_lit 224)] }
noncomputable def q81 (P : Params) : Obj := { cls := Value.type "frame", slots := #[some (Value.ref (nat_lit 40)), some (Value.ref (nat_lit 3)), some (Value.ref (nat_lit 37)), none, some (hT "outlinemill.errors" (nat_lit 187)), none, some (Value.ref (nat_lit 0))] }
noncomputable def q82 (P : Params) : Obj := { cls := Value.type "tuple", data := Data.seq #[] }
noncomputable def q83 (P : Params) : Obj := { cls := Value.type "dict", data := Data.dict #[{ hash := PyData.keyHash P (Str.ofString "__module__"), key := Value.str (Str.ofString "__module__") 225, val := Value.str (Str.ofString "outlinemill.errors") 187 }, { hash := PyData.keyHash P (Str.ofString "__firstlineno__"), key := Value.str (Str.ofString "__firstlineno__") 229, val := Value.int 6 228 }, { hash := PyData.keyHash P (Str.ofString "__static_attributes__"), key := Value.str (Str.ofString "__static_attributes__") 230, val := Value.ref 42 }, { hash := PyData.keyHash P (Str.ofString "__doc__"), key := Value.str (Str.ofString "__doc__") 231, val := Value.none }] 2 }
noncomputable def q84 (P : Params) : Obj := { cls := Value.type "type", data := Data.cls { name := Str.ofString "SizeFault", bases := [Value.ref 31], mro := [Value.ref 44, Value.ref 31, Value.type "Exception", Value.type "BaseException", Value.type "object"], ns := 43, qualname := Str.ofString "SizeFault" }, slots := #[some (Value.ref 35), none, some (Value.str (Str.ofString "SizeFault") 218), some (Value.str (Str.ofString "SizeFault") 226), some (Value.builtin "Exception.__new__"), some (Value.bool true)] }
noncomputable def q85 (P : Params) : Obj := { cls := Value.type "super", data := Data.fields #[Value.ref (nat_lit 44), Value.ref (nat_lit 44), Value.ref (nat_lit 44)] }
noncomputable def q86 (P : Params) : Obj := { cls := Value.type "builtin_function_or_method", data := Data.fields #[Value.builtin "object.__init_subclass__", Value.ref (nat_lit 44)] }
noncomputable def q87 (P : Params) : Obj := { cls := Value.type "tuple", data := Data.seq #[Value.str (Str.ofString "nonzero") 236, Value.str (Str.ofString "evenodd") 237] }
noncomputable def q88 (P : Params) : Obj := { cls := Value.type "tuple", data := Data.seq #[] }
noncomputable def q89 (P : Params) : Obj := { cls := Value.none, data := Data.fields #[] }
noncomputable def q90 (P : Params) : Obj := { cls := Value.type "tuple", data := Data.seq #[Value.str (Str.ofString "one") 242, Value.str (Str.ofString "other") 243] }
noncomputable def q91 (P : Params) : Obj := { cls := Value.type "tuple", data := Data.seq #[] }
noncomputable def q92 (_ : Params) : Obj := fnC (topSt (nat_lit 5)) (Str.ofString "comes_behind") rfl
noncomputable def q93 (P : Params) : Obj := { cls := Value.type "code", data := Data.fields #[Value.str (Str.ofString "comes_behind") 239, Value.str (Str.ofString "comes_behind") 240, Value.str (Str.ofString "/claim/cut.py") 241, Value.int 10 0, Value.int 2 0, Value.int 0 0, Value.int 0 0, Value.int 3 0, Value.ref 48, Value.bool true, Value.int 181 0, Value.ref 49, Value.none, Value.ref 50, Value.ref 51, Value.ref 52, Value.int 244 0, Value.int 10 0, Value.str (Str.ofString "/claim/cut.py") 245] }
noncomputable def q94 (_ : Params) : Obj := fnO (topSt 5) (Str.ofString "comes_behind") (Value.none) (Value.str (Str.ofString "outlinemill.scan") 234) 53 rfl
noncomputable def q95 (P : Params) : Obj := { cls := Value.type "tuple", data := Data.seq #[] }
noncomputable def q96 (P : Params) : Obj := { cls := Value.none, data := Data.fields #[] }
noncomputable def q97 (P : Params) : Obj := { cls := Value.type "tuple", data := Data.seq #[Value.str (Str.ofString "sides") 250, Value.str (Str.ofString "y") 251, Value.str (Str.ofString "found") 252, Value.str (Str.ofString "side") 253, Value.str (Str.ofString "crossing") 254, Value.str (Str.ofString "at") 255] }
noncomputable def q98 (P : Params) : Obj := { cls := Value.type "tuple", data := Data.seq #[] }
noncomputable def q99 (_ : Params) : Obj := fnC (topSt (nat_lit 6)) (Str.ofString "crossings") rfl
noncomputable def q100 (P : Params) : Obj := { cls := Value.type "code", data := Data.fields #[Value.str (Str.ofString "crossings") 247, Value.str (Str.ofString "crossings") 248, Value.str (Str.ofString "/claim/cut.py") 249, Value.int 12 0, Value.int 2 0, Value.int 0 0, Value.int 0 0, Value.int 3 0, Value.ref 55, Value.bool true, Value.int 181 0, Value.ref 56, Value.none, Value.ref 57, Value.ref 58, Value.ref 59, Value.int 256 0, Value.int 12 0, Value.str (Str.ofString "/claim/cut.py") 257] }
noncomputable def q101 (_ : Params) : Obj := fnO (topSt 6) (Str.ofString "crossings") (Value.none) (Value.str (Str.ofString "outlinemill.scan") 234) 60 rfl
noncomputable def q102 (P : Params) : Obj := { cls := Value.type "tuple", data := Data.seq #[] }
noncomputable def q103 (P : Params) : Obj := { cls := Value.none, data := Data.fields #[] }
noncomputable def q104 (P : Params) : Obj := { cls := Value.type "tuple", data := Data.seq #[Value.str (Str.ofString "winding") 262, Value.str (Str.ofString "rule") 263] }
noncomputable def q105 (P : Params) : Obj := { cls := Value.type "tuple", data := Data.seq #[] }
noncomputable def q106 (_ : Params) : Obj := fnC (topSt (nat_lit 7)) (Str.ofString "is_inside") rfl
noncomputable def q107 (P : Params) : Obj := { cls := Value.type "code", data := Data.fields #[Value.str (Str.ofString "is_inside") 259, Value.str (Str.ofString "is_inside") 260, Value.str (Str.ofString "/claim/cut.py") 261, Value.int 22 0, Value.int 2 0, Value.int 0 0, Value.int 0 0, Value.int 3 0, Value.ref 62, Value.bool true, Value.int 181 0, Value.ref 63, Value.none, Value.ref 64, Value.ref 65, Value.ref 66, Value.int 264 0, Value.int 22 0, Value.str (Str.ofString "/claim/cut.py") 265] }
noncomputable def q108 (_ : Params) : Obj := fnO (topSt 7) (Str.ofString "is_inside") (Value.none) (Value.str (Str.ofString "outlinemill.scan") 234) 67 rfl
noncomputable def q109 (P : Params) : Obj := { cls := Value.type "tuple", data := Data.seq #[] }
noncomputable def q110 (P : Params) : Obj := { cls := Value.none, data := Data.fields #[] }
noncomputable def q111 (P : Params) : Obj := { cls := Value.type "tuple", data := Data.seq #[Value.str (Str.ofString "sides") 270, Value.str (Str.ofString "x") 271, Value.str (Str.ofString "y") 272, Value.str (Str.ofString "winding") 273, Value.str (Str.ofString "place") 274, Value.str (Str.ofString "way") 275] }
noncomputable def q112 (P : Params) : Obj := { cls := Value.type "tuple", data := Data.seq #[] }
noncomputable def q113 (_ : Params) : Obj := fnC (topSt (nat_lit 8)) (Str.ofString "winding_at") rfl
noncomputable def q114 (P : Params) : Obj := { cls := Value.type "code", data := Data.fields #[Value.str (Str.ofString "winding_at") 267, Value.str (Str.ofString "winding_at") 268, Value.str (Str.ofString "/claim/cut.py") 269, Value.int 24 0, Value.int 3 0, Value.int 0 0, Value.int 0 0, Value.int 3 0, Value.ref 69, Value.bool true, Value.int 181 0, Value.ref 70, Value.none, Value.ref 71, Value.ref 72, Value.ref 73, Value.int 276 0, Value.int 24 0, Value.str (Str.ofString "/claim/cut.py") 277] }
noncomputable def q115 (_ : Params) : Obj := fnO (topSt 8) (Str.ofString "winding_at") (Value.none) (Value.str (Str.ofString "outlinemill.scan") 234) 74 rfl
noncomputable def q116 (P : Params) : Obj := { cls := Value.type "tuple", data := Data.seq #[] }
noncomputable def q117 (P : Params) : Obj := { cls := Value.none, data := Data.fields #[] }
noncomputable def q118 (P : Params) : Obj := { cls := Value.type "tuple", data := Data.seq #[Value.str (Str.ofString "fine") 282, Value.str (Str.ofString "grain") 283] }
noncomputable def q119 (P : Params) : Obj := { cls := Value.type "tuple", data := Data.seq #[] }
noncomputable def q120 (_ : Params) : Obj := fnC (topSt (nat_lit 9)) (Str.ofString "step_of") rfl
noncomputable def q121 (P : Params) : Obj := { cls := Value.type "code", data := Data.fields #[Value.str (Str.ofString "step_of") 279, Value.str (Str.ofString "step_of") 280, Value.str (Str.ofString "/claim/cut.py") 281, Value.int 30 0, Value.int 2 0, Value.int 0 0, Value.int 0 0, Value.int 3 0, Value.ref 76, Value.bool true, Value.int 181 0, Value.ref 77, Value.none, Value.ref 78, Value.ref 79, Value.ref 80, Value.int 284 0, Value.int 30 0, Value.str (Str.ofString "/claim/cut.py") 285] }
noncomputable def q122 (_ : Params) : Obj := fnO (topSt 9) (Str.ofString "step_of") (Value.none) (Value.str (Str.ofString "outlinemill.scan") 234) 81 rfl
noncomputable def q123 (P : Params) : Obj := { cls := Value.type "dict", data := Data.dict #[hD P "__name__" (nat_lit 165) (hT "outlinemill.sides" (nat_lit 359)), hD P "__doc__" (nat_lit 166) (Value.none), hD P "__package__" (nat_lit 167) (Value.none), hD P "__loader__" (nat_lit 168) (Value.builtin "__main__.__loader__#opaque"), hD P "__spec__" (nat_lit 169) (Value.none), hD P "__annotations__" (nat_lit 170) (Value.ref (nat_lit 6)), hD P "__builtins__" (nat_lit 171) (Value.ref (nat_lit 4)), hD P "__file__" (nat_lit 173) (hT "/claim/cut.py" (nat_lit 172)), hD P "__cached__" (nat_lit 174) (Value.none), hD P "MillError" (nat_lit 217) (Value.ref (nat_lit 31)), hD P "SizeFault" (nat_lit 233) (Value.ref (nat_lit 44)), hD P "RULES" (nat_lit 238) (Value.ref (nat_lit 47)), hD P "comes_behind" (nat_lit 246) (Value.ref (nat_lit 54)), hD P "crossings" (nat_lit 258) (Value.ref (nat_lit 61)), hD P "is_inside" (nat_lit 266) (Value.ref (nat_lit 68)), hD P "winding_at" (nat_lit 278) (Value.ref (nat_lit 75)), hD P "step_of" (nat_lit 286) (Value.ref (nat_lit 82)), hD P "sample_place" (nat_lit 296) (Value.ref (nat_lit 89)), hD P "ceiling" (nat_lit 304) (Value.ref (nat_lit 96)), hD P "column_behind" (nat_lit 314) (Value.ref (nat_lit 103)), hD P "check_rule" (nat_lit 321) (Value.ref (nat_lit 110)), hD P "steps_of_row" (nat_lit 332) (Value.ref (nat_lit 117)), hD P "spans_by" (nat_lit 346) (Value.ref (nat_lit 124)), hD P "sample_spans" (nat_lit 358) (Value.ref (nat_lit 131))] (nat_lit 24) }
noncomputable def q124 (P : Params) : Obj := { cls := Value.none, data := Data.fields #[Value.int (nat_lit 2) (nat_lit 0), Value.int (nat_lit 0) (nat_lit 0), Value.ref (nat_lit 20), Value.int (nat_lit 6) (nat_lit 0), Value.int (nat_lit 0) (nat_lit 0), Value.ref (nat_lit 40), Value.int (nat_lit 10) (nat_lit 0), Value.int (nat_lit 0) (nat_lit 0), Value.ref (nat_lit 53), Value.int (nat_lit 12) (nat_lit 0), Value.int (nat_lit 0) (nat_lit 0), Value.ref (nat_lit 60), Value.int (nat_lit 22) (nat_lit 0), Value.int (nat_lit 0) (nat_lit 0), Value.ref (nat_lit 67), Value.int (nat_lit 24) (nat_lit 0), Value.int (nat_lit 0) (nat_lit 0), Value.ref (nat_lit 74), Value.int (nat_lit 30) (nat_lit 0), Value.int (nat_lit 0) (nat_lit 0), Value.ref (nat_lit 81), Value.int (nat_lit 34) (nat_lit 0), Value.int (nat_lit 0) (nat_lit 0), Value.ref (nat_lit 88), Value.int (nat_lit 37) (nat_lit 0), Value.int (nat_lit 0) (nat_lit 0), Value.ref (nat_lit 95), Value.int (nat_lit 39) (nat_lit 0), Value.int (nat_lit 0) (nat_lit 0), Value.ref (nat_lit 102), Value.int (nat_lit 42) (nat_lit 0), Value.int (nat_lit 0) (nat_lit 0), Value.ref (nat_lit 109), Value.int (nat_lit 45) (nat_lit 0), Value.int (nat_lit 0) (nat_lit 0), Value.ref (nat_lit 116), Value.int (nat_lit 51) (nat_lit 0), Value.int (nat_lit 0) (nat_lit 0), Value.ref (nat_lit 123), Value.int (nat_lit 63) (nat_lit 0), Value.int (nat_lit 0) (nat_lit 0), Value.ref (nat_lit 130)] }
noncomputable def q125 (P : Params) : Obj := { cls := Value.type "tuple", data := Data.seq #[] }
noncomputable def q126 (P : Params) : Obj := { cls := Value.none, data := Data.fields #[] }
noncomputable def q127 (P : Params) : Obj := { cls := Value.type "tuple", data := Data.seq #[Value.str (Str.ofString "number") 290, Value.str (Str.ofString "fine") 291, Value.str (Str.ofString "grain") 292, Value.str (Str.ofString "step") 293] }
noncomputable def q128 (P : Params) : Obj := { cls := Value.type "tuple", data := Data.seq #[] }
noncomputable def q129 (_ : Params) : Obj := fnC (topSt (nat_lit 10)) (Str.ofString "sample_place") rfl
noncomputable def q130 (P : Params) : Obj := { cls := Value.type "code", data := Data.fields #[Value.str (Str.ofString "sample_place") 287, Value.str (Str.ofString "sample_place") 288, Value.str (Str.ofString "/claim/cut.py") 289, Value.int 34 0, Value.int 3 0, Value.int 0 0, Value.int 0 0, Value.int 3 0, Value.ref 83, Value.bool true, Value.int 181 0, Value.ref 84, Value.none, Value.ref 85, Value.ref 86, Value.ref 87, Value.int 294 0, Value.int 34 0, Value.str (Str.ofString "/claim/cut.py") 295] }
noncomputable def q131 (_ : Params) : Obj := fnO (topSt 10) (Str.ofString "sample_place") (Value.none) (Value.str (Str.ofString "outlinemill.scan") 234) 88 rfl
noncomputable def q132 (P : Params) : Obj := { cls := Value.type "tuple", data := Data.seq #[] }
noncomputable def q133 (P : Params) : Obj := { cls := Value.none, data := Data.fields #[] }
noncomputable def q134 (P : Params) : Obj := { cls := Value.type "tuple", data := Data.seq #[Value.str (Str.ofString "top") 300, Value.str (Str.ofString "bottom") 301] }
noncomputable def q135 (P : Params) : Obj := { cls := Value.type "tuple", data := Data.seq #[] }
noncomputable def q136 (_ : Params) : Obj := fnC (topSt (nat_lit 11)) (Str.ofString "ceiling") rfl
noncomputable def q137 (P : Params) : Obj := { cls := Value.type "code", data := Data.fields #[Value.str (Str.ofString "ceiling") 297, Value.str (Str.ofString "ceiling") 298, Value.str (Str.ofString "/claim/cut.py") 299, Value.int 37 0, Value.int 2 0, Value.int 0 0, Value.int 0 0, Value.int 3 0, Value.ref 90, Value.bool true, Value.int 181 0, Value.ref 91, Value.none, Value.ref 92, Value.ref 93, Value.ref 94, Value.int 302 0, Value.int 37 0, Value.str (Str.ofString "/claim/cut.py") 303] }
noncomputable def q138 (_ : Params) : Obj := fnO (topSt 11) (Str.ofString "ceiling") (Value.none) (Value.str (Str.ofString "outlinemill.scan") 234) 95 rfl
noncomputable def q139 (P : Params) : Obj := { cls := Value.type "tuple", data := Data.seq #[] }
noncomputable def q140 (P : Params) : Obj := { cls := Value.none, data := Data.fields #[] }
noncomputable def q141 (P : Params) : Obj := { cls := Value.type "tuple", data := Data.seq #[Value.str (Str.ofString "place") 308, Value.str (Str.ofString "step") 309, Value.str (Str.ofString "top") 310, Value.str (Str.ofString "bottom") 311] }
noncomputable def q142 (P : Params) : Obj := { cls := Value.type "tuple", data := Data.seq #[] }
noncomputable def q143 (_ : Params) : Obj := fnC (topSt (nat_lit 12)) (Str.ofString "column_behind") rfl
noncomputable def q144 (P : Params) : Obj := { cls := Value.type "code", data := Data.fields #[Value.str (Str.ofString "column_behind") 305, Value.str (Str.ofString "column_behind") 306, Value.str (Str.ofString "/claim/cut.py") 307, Value.int 39 0, Value.int 2 0, Value.int 0 0, Value.int 0 0, Value.int 3 0, Value.ref 97, Value.bool true, Value.int 181 0, Value.ref 98, Value.none, Value.ref 99, Value.ref 100, Value.ref 101, Value.int 312 0, Value.int 39 0, Value.str (Str.ofString "/claim/cut.py") 313] }
noncomputable def q145 (_ : Params) : Obj := fnO (topSt 12) (Str.ofString "column_behind") (Value.none) (Value.str (Str.ofString "outlinemill.scan") 234) 102 rfl
noncomputable def q146 (P : Params) : Obj := { cls := Value.type "tuple", data := Data.seq #[] }
noncomputable def q147 (P : Params) : Obj := { cls := Value.none, data := Data.fields #[] }
noncomputable def q148 (P : Params) : Obj := { cls := Value.type "tuple", data := Data.seq #[Value.str (Str.ofString "rule") 318] }
noncomputable def q149 (P : Params) : Obj := { cls := Value.type "tuple", data := Data.seq #[] }
noncomputable def q150 (_ : Params) : Obj := fnC (topSt (nat_lit 13)) (Str.ofString "check_rule") rfl
noncomputable def q151 (P : Params) : Obj := { cls := Value.type "code", data := Data.fields #[Value.str (Str.ofString "check_rule") 315, Value.str (Str.ofString "check_rule") 316, Value.str (Str.ofString "/claim/cut.py") 317, Value.int 42 0, Value.int 1 0, Value.int 0 0, Value.int 0 0, Value.int 3 0, Value.ref 104, Value.bool true, Value.int 181 0, Value.ref 105, Value.none, Value.ref 106, Value.ref 107, Value.ref 108, Value.int 319 0, Value.int 42 0, Value.str (Str.ofString "/claim/cut.py") 320] }
noncomputable def q152 (_ : Params) : Obj := fnO (topSt 13) (Str.ofString "check_rule") (Value.none) (Value.str (Str.ofString "outlinemill.scan") 234) 109 rfl
noncomputable def q153 (P : Params) : Obj := { cls := Value.type "tuple", data := Data.seq #[] }
noncomputable def q154 (P : Params) : Obj := { cls := Value.none, data := Data.fields #[] }
noncomputable def q155 (P : Params) : Obj := { cls := Value.type "tuple", data := Data.seq #[Value.str (Str.ofString "sides") 325, Value.str (Str.ofString "y") 326, Value.str (Str.ofString "step") 327, Value.str (Str.ofString "found") 328, Value.str (Str.ofString "side") 329] }
noncomputable def q156 (P : Params) : Obj := { cls := Value.type "tuple", data := Data.seq #[] }
noncomputable def q157 (_ : Params) : Obj := fnC (topSt (nat_lit 14)) (Str.ofString "steps_of_row") rfl
noncomputable def q158 (P : Params) : Obj := { cls := Value.type "code", data := Data.fields #[Value.str (Str.ofString "steps_of_row") 322, Value.str (Str.ofString "steps_of_row") 323, Value.str (Str.ofString "/claim/cut.py") 324, Value.int 45 0, Value.int 3 0, Value.int 0 0, Value.int 0 0, Value.int 3 0, Value.ref 111, Value.bool true, Value.int 181 0, Value.ref 112, Value.none, Value.ref 113, Value.ref 114, Value.ref 115, Value.int 330 0, Value.int 45 0, Value.str (Str.ofString "/claim/cut.py") 331] }
noncomputable def q159 (_ : Params) : Obj := fnO (topSt 14) (Str.ofString "steps_of_row") (Value.none) (Value.str (Str.ofString "outlinemill.scan") 234) 116 rfl
noncomputable def q160 (P : Params) : Obj := { cls := Value.type "tuple", data := Data.seq #[] }
noncomputable def q161 (P : Params) : Obj := { cls := Value.none, data := Data.fields #[] }
noncomputable def q162 (P : Params) : Obj := { cls := Value.type "tuple", data := Data.seq #[Value.str (Str.ofString "changes") 336, Value.str (Str.ofString "rule") 337, Value.str (Str.ofString "found") 338, Value.str (Str.ofString "winding") 339, Value.str (Str.ofString "begin") 340, Value.str (Str.ofString "at") 341, Value.str (Str.ofString "column") 342, Value.str (Str.ofString "way") 343] }
noncomputable def q163 (P : Params) : Obj := { cls := Value.type "tuple", data := Data.seq #[] }
noncomputable def q164 (_ : Params) : Obj := fnC (topSt (nat_lit 15)) (Str.ofString "spans_by") rfl
noncomputable def q165 (P : Params) : Obj := { cls := Value.type "code", data := Data.fields #[Value.str (Str.ofString "spans_by") 333, Value.str (Str.ofString "spans_by") 334, Value.str (Str.ofString "/claim/cut.py") 335, Value.int 51 0, Value.int 2 0, Value.int 0 0, Value.int 0 0, Value.int 3 0, Value.ref 118, Value.bool true, Value.int 181 0, Value.ref 119, Value.none, Value.ref 120, Value.ref 121, Value.ref 122, Value.int 344 0, Value.int 51 0, Value.str (Str.ofString "/claim/cut.py") 345] }
noncomputable def q166 (_ : Params) : Obj := fnO (topSt 15) (Str.ofString "spans_by") (Value.none) (Value.str (Str.ofString "outlinemill.scan") 234) 123 rfl
noncomputable def q167 (P : Params) : Obj := { cls := Value.type "tuple", data := Data.seq #[] }
noncomputable def q168 (P : Params) : Obj := { cls := Value.none, data := Data.fields #[] }
noncomputable def q169 (P : Params) : Obj := { cls := Value.type "tuple", data := Data.seq #[Value.str (Str.ofString "sides") 350, Value.str (Str.ofString "row") 351, Value.str (Str.ofString "rule") 352, Value.str (Str.ofString "fine") 353, Value.str (Str.ofString "grain") 354, Value.str (Str.ofString "step") 355] }
noncomputable def q170 (P : Params) : Obj := { cls := Value.type "tuple", data := Data.seq #[] }
noncomputable def q171 (_ : Params) : Obj := fnC (topSt (nat_lit 16)) (Str.ofString "sample_spans") rfl
noncomputable def q172 (P : Params) : Obj := { cls := Value.type "code", data := Data.fields #[Value.str (Str.ofString "sample_spans") 347, Value.str (Str.ofString "sample_spans") 348, Value.str (Str.ofString "/claim/cut.py") 349, Value.int 63 0, Value.int 5 0, Value.int 0 0, Value.int 0 0, Value.int 3 0, Value.ref 125, Value.bool true, Value.int 181 0, Value.ref 126, Value.none, Value.ref 127, Value.ref 128, Value.ref 129, Value.int 356 0, Value.int 63 0, Value.str (Str.ofString "/claim/cut.py") 357] }
noncomputable def q173 (_ : Params) : Obj := fnO (topSt 16) (Str.ofString "sample_spans") (Value.none) (Value.str (Str.ofString "outlinemill.scan") 234) 130 rfl
noncomputable def q174 (P : Params) : Obj := { cls := Value.type "dict", data := Data.dict #[hD P "__name__" (nat_lit 165) (hT "outlinemill.sides" (nat_lit 359)), hD P "__doc__" (nat_lit 166) (Value.none), hD P "__package__" (nat_lit 167) (Value.none), hD P "__loader__" (nat_lit 168) (Value.builtin "__main__.__loader__#opaque"), hD P "__spec__" (nat_lit 169) (Value.none), hD P "__annotations__" (nat_lit 170) (Value.ref (nat_lit 6)), hD P "__builtins__" (nat_lit 171) (Value.ref (nat_lit 4)), hD P "__file__" (nat_lit 173) (hT "/claim/cut.py" (nat_lit 172)), hD P "__cached__" (nat_lit 174) (Value.none), hD P "MillError" (nat_lit 217) (Value.ref (nat_lit 31)), hD P "SizeFault" (nat_lit 233) (Value.ref (nat_lit 44)), hD P "RULES" (nat_lit 238) (Value.ref (nat_lit 47)), hD P "comes_behind" (nat_lit 246) (Value.ref (nat_lit 54)), hD P "crossings" (nat_lit 258) (Value.ref (nat_lit 61)), hD P "is_inside" (nat_lit 266) (Value.ref (nat_lit 68)), hD P "winding_at" (nat_lit 278) (Value.ref (nat_lit 75)), hD P "step_of" (nat_lit 286) (Value.ref (nat_lit 82)), hD P "sample_place" (nat_lit 296) (Value.ref (nat_lit 89)), hD P "ceiling" (nat_lit 304) (Value.ref (nat_lit 96)), hD P "column_behind" (nat_lit 314) (Value.ref (nat_lit 103)), hD P "check_rule" (nat_lit 321) (Value.ref (nat_lit 110)), hD P "steps_of_row" (nat_lit 332) (Value.ref (nat_lit 117)), hD P "spans_by" (nat_lit 346) (Value.ref (nat_lit 124)), hD P "sample_spans" (nat_lit 358) (Value.ref (nat_lit 131)), hD P "Side" (nat_lit 421) (Value.ref (nat_lit 169)), hD P "side_between" (nat_lit 429) (Value.ref (nat_lit 180)), hD P "sides_of_contour" (nat_lit 442) (Value.ref (nat_lit 187))] (nat_lit 27) }
noncomputable def q175 (P : Params) : Obj := { cls := Value.none, data := Data.fields #[Value.int (nat_lit 2) (nat_lit 0), Value.int (nat_lit 0) (nat_lit 0), Value.ref (nat_lit 20), Value.int (nat_lit 6) (nat_lit 0), Value.int (nat_lit 0) (nat_lit 0), Value.ref (nat_lit 40), Value.int (nat_lit 10) (nat_lit 0), Value.int (nat_lit 0) (nat_lit 0), Value.ref (nat_lit 53), Value.int (nat_lit 12) (nat_lit 0), Value.int (nat_lit 0) (nat_lit 0), Value.ref (nat_lit 60), Value.int (nat_lit 22) (nat_lit 0), Value.int (nat_lit 0) (nat_lit 0), Value.ref (nat_lit 67), Value.int (nat_lit 24) (nat_lit 0), Value.int (nat_lit 0) (nat_lit 0), Value.ref (nat_lit 74), Value.int (nat_lit 30) (nat_lit 0), Value.int (nat_lit 0) (nat_lit 0), Value.ref (nat_lit 81), Value.int (nat_lit 34) (nat_lit 0), Value.int (nat_lit 0) (nat_lit 0), Value.ref (nat_lit 88), Value.int (nat_lit 37) (nat_lit 0), Value.int (nat_lit 0) (nat_lit 0), Value.ref (nat_lit 95), Value.int (nat_lit 39) (nat_lit 0), Value.int (nat_lit 0) (nat_lit 0), Value.ref (nat_lit 102), Value.int (nat_lit 42) (nat_lit 0), Value.int (nat_lit 0) (nat_lit 0), Value.ref (nat_lit 109), Value.int (nat_lit 45) (nat_lit 0), Value.int (nat_lit 0) (nat_lit 0), Value.ref (nat_lit 116), Value.int (nat_lit 51) (nat_lit 0), Value.int (nat_lit 0) (nat_lit 0), Value.ref (nat_lit 123), Value.int (nat_lit 63) (nat_lit 0), Value.int (nat_lit 0) (nat_lit 0), Value.ref (nat_lit 130), Value.int (nat_lit 68) (nat_lit 0), Value.int (nat_lit 0) (nat_lit 0), Value.ref (nat_lit 137), Value.int (nat_lit 86) (nat_lit 0), Value.int (nat_lit 0) (nat_lit 0), Value.ref (nat_lit 179), Value.int (nat_lit 92) (nat_lit 0), Value.int (nat_lit 0) (nat_lit 0), Value.ref (nat_lit 186)] }
noncomputable def q176 (P : Params) : Obj := { cls := Value.type "tuple", data := Data.seq #[] }
noncomputable def q177 (P : Params) : Obj := { cls := Value.type "builtin_function_or_method", data := Data.fields #[Value.builtin "type.__prepare__", Value.type "type"] }
noncomputable def q178 (P : Params) : Obj := { cls := Value.type "dict", data := Data.dict #[hD P "__module__" (nat_lit 368) (hT "outlinemill.sides" (nat_lit 359)), hD P "__qualname__" (nat_lit 370) (hT "Side" (nat_lit 369)), hD P "__firstlineno__" (nat_lit 372) (Value.int (nat_lit 68) (nat_lit 371)), hD P "__init__" (nat_lit 384) (Value.ref (nat_lit 145)), hD P "row" (nat_lit 391) (Value.ref (nat_lit 152)), hD P "covers" (nat_lit 399) (Value.ref (nat_lit 159)), hD P "place_at" (nat_lit 408) (Value.ref (nat_lit 166)), hD P "__static_attributes__" (nat_lit 414) (Value.ref (nat_lit 167))] (nat_lit 8) }
noncomputable def q179 (P : Params) : Obj := { cls := Value.type "tuple", data := Data.seq #[] }
noncomputable def q180 (P : Params) : Obj := { cls := Value.none, data := Data.fields #[Value.int (nat_lit 70) (nat_lit 0), Value.int (nat_lit 4) (nat_lit 0), Value.ref (nat_lit 144), Value.int (nat_lit 77) (nat_lit 0), Value.int (nat_lit 4) (nat_lit 0), Value.ref (nat_lit 151), Value.int (nat_lit 80) (nat_lit 0), Value.int (nat_lit 4) (nat_lit 0), Value.ref (nat_lit 158), Value.int (nat_lit 83) (nat_lit 0), Value.int (nat_lit 4) (nat_lit 0), Value.ref (nat_lit 165)] }
noncomputable def q181 (P : Params) : Obj := { cls := Value.type "code", data := Data.fields #[hT "Side" (nat_lit 363), hT "Side" (nat_lit 364), hT "/claim/cut.py" (nat_lit 365), Value.int (nat_lit 68) (nat_lit 0), Value.int (nat_lit 0) (nat_lit 0), Value.int (nat_lit 0) (nat_lit 0), Value.int (nat_lit 0) (nat_lit 0), Value.int (nat_lit 0) (nat_lit 0), Value.ref (nat_lit 135), Value.bool false, Value.int (nat_lit 181) (nat_lit 0), Value.ref (nat_lit 136), Value.none, Value.none, Value.none, Value.none, Value.int (nat_lit 366) (nat_lit 0), Value.int (nat_lit 68) (nat_lit 0), hT "/claim/cut.py" (nat_lit 367)] }
noncomputable def q182 (P : Params) : Obj := { cls := Value.type "frame", slots := #[some (Value.ref (nat_lit 137)), some (Value.ref (nat_lit 3)), some (Value.ref (nat_lit 134)), none, some (hT "outlinemill.sides" (nat_lit 359)), none, some (Value.ref (nat_lit 0))] }
noncomputable def q183 (P : Params) : Obj := { cls := Value.type "tuple", data := Data.seq #[] }
noncomputable def q184 (P : Params) : Obj := { cls := Value.none, data := Data.fields #[] }
noncomputable def q185 (P : Params) : Obj := { cls := Value.type "tuple", data := Data.seq #[Value.str (Str.ofString "self") 376, Value.str (Str.ofString "x1") 377, Value.str (Str.ofString "y1") 378, Value.str (Str.ofString "x2") 379, Value.str (Str.ofString "y2") 380, Value.str (Str.ofString "way") 381] }
noncomputable def q186 (P : Params) : Obj := { cls := Value.type "tuple", data := Data.seq #[] }
noncomputable def q187 (_ : Params) : Obj := fnC (inCls (topSt (nat_lit 18)) (nat_lit 0)) (Str.ofString "Side.__init__") rfl
noncomputable def q188 (P : Params) : Obj := { cls := Value.type "code", data := Data.fields #[Value.str (Str.ofString "__init__") 373, Value.str (Str.ofString "Side.__init__") 374, Value.str (Str.ofString "/claim/cut.py") 375, Value.int 70 0, Value.int 6 0, Value.int 0 0, Value.int 0 0, Value.int 3 0, Value.ref 139, Value.bool true, Value.int 181 0, Value.ref 140, Value.none, Value.ref 141, Value.ref 142, Value.ref 143, Value.int 382 0, Value.int 70 0, Value.str (Str.ofString "/claim/cut.py") 383] }
noncomputable def q189 (_ : Params) : Obj := fnO (inCls (topSt 18) 0) (Str.ofString "Side.__init__") (Value.none) (Value.str (Str.ofString "outlinemill.sides") 359) 144 rfl
noncomputable def q190 (P : Params) : Obj := { cls := Value.type "tuple", data := Data.seq #[] }
noncomputable def q191 (P : Params) : Obj := { cls := Value.none, data := Data.fields #[] }
noncomputable def q192 (P : Params) : Obj := { cls := Value.type "tuple", data := Data.seq #[Value.str (Str.ofString "self") 388] }
noncomputable def q193 (P : Params) : Obj := { cls := Value.type "tuple", data := Data.seq #[] }
noncomputable def q194 (_ : Params) : Obj := fnC (inCls (topSt (nat_lit 18)) (nat_lit 1)) (Str.ofString "Side.row") rfl
noncomputable def q195 (P : Params) : Obj := { cls := Value.type "code", data := Data.fields #[Value.str (Str.ofString "row") 385, Value.str (Str.ofString "Side.row") 386, Value.str (Str.ofString "/claim/cut.py") 387, Value.int 77 0, Value.int 1 0, Value.int 0 0, Value.int 0 0, Value.int 3 0, Value.ref 146, Value.bool true, Value.int 181 0, Value.ref 147, Value.none, Value.ref 148, Value.ref 149, Value.ref 150, Value.int 389 0, Value.int 77 0, Value.str (Str.ofString "/claim/cut.py") 390] }
noncomputable def q196 (_ : Params) : Obj := fnO (inCls (topSt 18) 1) (Str.ofString "Side.row") (Value.none) (Value.str (Str.ofString "outlinemill.sides") 359) 151 rfl
noncomputable def q197 (P : Params) : Obj := { cls := Value.type "tuple", data := Data.seq #[] }
noncomputable def q198 (P : Params) : Obj := { cls := Value.none, data := Data.fields #[] }
noncomputable def q199 (P : Params) : Obj := { cls := Value.type "tuple", data := Data.seq #[Value.str (Str.ofString "self") 395, Value.str (Str.ofString "y") 396] }
noncomputable def q200 (P : Params) : Obj := { cls := Value.type "tuple", data := Data.seq #[] }
noncomputable def q201 (_ : Params) : Obj := fnC (inCls (topSt (nat_lit 18)) (nat_lit 2)) (Str.ofString "Side.covers") rfl
noncomputable def q202 (P : Params) : Obj := { cls := Value.type "code", data := Data.fields #[Value.str (Str.ofString "covers") 392, Value.str (Str.ofString "Side.covers") 393, Value.str (Str.ofString "/claim/cut.py") 394, Value.int 80 0, Value.int 2 0, Value.int 0 0, Value.int 0 0, Value.int 3 0, Value.ref 153, Value.bool true, Value.int 181 0, Value.ref 154, Value.none, Value.ref 155, Value.ref 156, Value.ref 157, Value.int 397 0, Value.int 80 0, Value.str (Str.ofString "/claim/cut.py") 398] }
noncomputable def q203 (_ : Params) : Obj := fnO (inCls (topSt 18) 2) (Str.ofString "Side.covers") (Value.none) (Value.str (Str.ofString "outlinemill.sides") 359) 158 rfl
noncomputable def q204 (P : Params) : Obj := { cls := Value.type "tuple", data := Data.seq #[] }
noncomputable def q205 (P : Params) : Obj := { cls := Value.none, data := Data.fields #[] }
noncomputable def q206 (P : Params) : Obj := { cls := Value.type "tuple", data := Data.seq #[Value.str (Str.ofString "self") 403, Value.str (Str.ofString "y") 404, Value.str (Str.ofString "high") 405] }
noncomputable def q207 (P : Params) : Obj := { cls := Value.type "tuple", data := Data.seq #[] }
noncomputable def q208 (_ : Params) : Obj := fnC (inCls (topSt (nat_lit 18)) (nat_lit 3)) (Str.ofString "Side.place_at") rfl
noncomputable def q209 (P : Params) : Obj := { cls := Value.type "code", data := Data.fields #[Value.str (Str.ofString "place_at") 400, Value.str (Str.ofString "Side.place_at") 401, Value.str (Str.ofString "/claim/cut.py") 402, Value.int 83 0, Value.int 2 0, Value.int 0 0, Value.int 0 0, Value.int 3 0, Value.ref 160, Value.bool true, Value.int 181 0, Value.ref 161, Value.none, Value.ref 162, Value.ref 163, Value.ref 164, Value.int 406 0, Value.int 83 0, Value.str (Str.ofString "/claim/cut.py") 407] }
noncomputable def q210 (_ : Params) : Obj := fnO (inCls (topSt 18) 3) (Str.ofString "Side.place_at") (Value.none) (Value.str (Str.ofString "outlinemill.sides") 359) 165 rfl
noncomputable def q211 (P : Params) : Obj := { cls := Value.type "tuple", data := Data.seq #[Value.str (Str.ofString "way") 409, Value.str (Str.ofString "x1") 410, Value.str (Str.ofString "x2") 411, Value.str (Str.ofString "y1") 412, Value.str (Str.ofString "y2") 413] }
noncomputable def q212 (P : Params) : Obj := { cls := Value.type "dict", data := Data.dict #[{ hash := PyData.keyHash P (Str.ofString "__module__"), key := Value.str (Str.ofString "__module__") 368, val := Value.str (Str.ofString "outlinemill.sides") 359 }, { hash := PyData.keyHash P (Str.ofString "__firstlineno__"), key := Value.str (Str.ofString "__firstlineno__") 372, val := Value.int 68 371 }, { hash := PyData.keyHash P (Str.ofString "__init__"), key := Value.str (Str.ofString "__init__") 384, val := Value.ref 145 }, { hash := PyData.keyHash P (Str.ofString "row"), key := Value.str (Str.ofString "row") 391, val := Value.ref 152 }, { hash := PyData.keyHash P (Str.ofString "covers"), key := Value.str (Str.ofString "covers") 399, val := Value.ref 159 }, { hash := PyData.keyHash P (Str.ofString "place_at"), key := Value.str (Str.ofString "place_at") 408, val := Value.ref 166 }, { hash := PyData.keyHash P (Str.ofString "__static_attributes__"), key := Value.str (Str.ofString "__static_attributes__") 414, val := Value.ref 167 }, { hash := PyData.keyHash P (Str.ofString "__dict__"), key := Value.str (Str.ofString "__dict__") 416, val := Value.ref 170 }, { hash := PyData.keyHash P (Str.ofString "__weakref__"), key := Value.str (Str.ofString "__weakref__") 418, val := Value.ref 171 }, { hash := PyData.keyHash P (Str.ofString "__doc__"), key := Value.str (Str.ofString "__doc__") 419, val := Value.none }] 4 }
noncomputable def q213 (P : Params) : Obj := { cls := Value.type "type", data := Data.cls { name := Str.ofString "Side", bases := [Value.type "object"], mro := [Value.ref 169, Value.type "object"], ns := 168, qualname := Str.ofString "Side" }, slots := #[none, none, some (Value.str (Str.ofString "Side") 361), some (Value.str (Str.ofString "Side") 369), some (Value.builtin "object.__new__"), some (Value.bool true)] }
noncomputable def q214 (P : Params) : Obj := { cls := Value.type "getset_descriptor", data := Data.fields #[Value.str (Str.ofString "__dict__") 415, Value.ref 169, Value.builtin "function.__dict__", Value.builtin "function.__dict__#set"] }
noncomputable def q215 (P : Params) : Obj := { cls := Value.type "getset_descriptor", data := Data.fields #[Value.str (Str.ofString "__weakref__") 417, Value.ref 169, Value.builtin "ExceptionGroup.__weakref__", Value.none] }
noncomputable def q216 (P : Params) : Obj := { cls := Value.type "super", data := Data.fields #[Value.ref (nat_lit 169), Value.ref (nat_lit 169), Value.ref (nat_lit 169)] }
noncomputable def q217 (P : Params) : Obj := { cls := Value.type "builtin_function_or_method", data := Data.fields #[Value.builtin "object.__init_subclass__", Value.ref (nat_lit 169)] }
noncomputable def q218 (P : Params) : Obj := { cls := Value.type "tuple", data := Data.seq #[] }
noncomputable def q219 (P : Params) : Obj := { cls := Value.none, data := Data.fields #[] }
noncomputable def q220 (P : Params) : Obj := { cls := Value.type "tuple", data := Data.seq #[Value.str (Str.ofString "one") 425, Value.str (Str.ofString "other") 426] }
noncomputable def q221 (P : Params) : Obj := { cls := Value.type "tuple", data := Data.seq #[] }
noncomputable def q222 (_ : Params) : Obj := fnC (topSt (nat_lit 19)) (Str.ofString "side_between") rfl
noncomputable def q223 (P : Params) : Obj := { cls := Value.type "code", data := Data.fields #[Value.str (Str.ofString "side_between") 422, Value.str (Str.ofString "side_between") 423, Value.str (Str.ofString "/claim/cut.py") 424, Value.int 86 0, Value.int 2 0, Value.int 0 0, Value.int 0 0, Value.int 3 0, Value.ref 174, Value.bool true, Value.int 181 0, Value.ref 175, Value.none, Value.ref 176, Value.ref 177, Value.ref 178, Value.int 427 0, Value.int 86 0, Value.str (Str.ofString "/claim/cut.py") 428] }
noncomputable def q224 (_ : Params) : Obj := fnO (topSt 19) (Str.ofString "side_between") (Value.none) (Value.str (Str.ofString "outlinemill.sides") 359) 179 rfl
noncomputable def q225 (P : Params) : Obj := { cls := Value.type "tuple", data := Data.seq #[] }
noncomputable def q226 (P : Params) : Obj := { cls := Value.none, data := Data.fields #[] }
noncomputable def q227 (P : Params) : Obj := { cls := Value.type "tuple", data := Data.seq #[Value.str (Str.ofString "spots") 433, Value.str (Str.ofString "is_closed") 434, Value.str (Str.ofString "pairs") 435, Value.str (Str.ofString "found") 436, Value.str (Str.ofString "one") 437, Value.str (Str.ofString "other") 438, Value.str (Str.ofString "side") 439] }
noncomputable def q228 (P : Params) : Obj := { cls := Value.type "tuple", data := Data.seq #[] }
noncomputable def q229 (_ : Params) : Obj := fnC (topSt (nat_lit 20)) (Str.ofString "sides_of_contour") rfl
noncomputable def q230 (P : Params) : Obj := { cls := Value.type "code", data := Data.fields #[Value.str (Str.ofString "sides_of_contour") 430, Value.str (Str.ofString "sides_of_contour") 431, Value.str (Str.ofString "/claim/cut.py") 432, Value.int 92 0, Value.int 2 0, Value.int 0 0, Value.int 0 0, Value.int 3 0, Value.ref 181, Value.bool true, Value.int 181 0, Value.ref 182, Value.none, Value.ref 183, Value.ref 184, Value.ref 185, Value.int 440 0, Value.int 92 0, Value.str (Str.ofString "/claim/cut.py") 441] }
noncomputable def q231 (_ : Params) : Obj := fnO (topSt 20) (Str.ofString "sides_of_contour") (Value.none) (Value.str (Str.ofString "outlinemill.sides") 359) 186 rfl
noncomputable def q232 (P : Params) : Obj := { cls := Value.type "dict", data := Data.dict #[{ hash := PyData.keyHash P (Str.ofString "__name__"), key := Value.str (Str.ofString "__name__") 165, val := Value.str (Str.ofString "law_nu0008_01") 454 }, { hash := PyData.keyHash P (Str.ofString "__doc__"), key := Value.str (Str.ofString "__doc__") 166, val := Value.none }, { hash := PyData.keyHash P (Str.ofString "__package__"), key := Value.str (Str.ofString "__package__") 167, val := Value.none }, { hash := PyData.keyHash P (Str.ofString "__loader__"), key := Value.str (Str.ofString "__loader__") 168, val := Value.builtin "__main__.__loader__#opaque" }, { hash := PyData.keyHash P (Str.ofString "__spec__"), key := Value.str (Str.ofString "__spec__") 169, val := Value.none }, { hash := PyData.keyHash P (Str.ofString "__annotations__"), key := Value.str (Str.ofString "__annotations__") 170, val := Value.ref 6 }, { hash := PyData.keyHash P (Str.ofString "__builtins__"), key := Value.str (Str.ofString "__builtins__") 171, val := Value.ref 4 }, { hash := PyData.keyHash P (Str.ofString "__file__"), key := Value.str (Str.ofString "__file__") 173, val := Value.str (Str.ofString "/claim/cut.py") 172 }, { hash := PyData.keyHash P (Str.ofString "__cached__"), key := Value.str (Str.ofString "__cached__") 174, val := Value.none }, { hash := PyData.keyHash P (Str.ofString "MillError"), key := Value.str (Str.ofString "MillError") 217, val := Value.ref 31 }, { hash := PyData.keyHash P (Str.ofString "SizeFault"), key := Value.str (Str.ofString "SizeFault") 233, val := Value.ref 44 }, { hash := PyData.keyHash P (Str.ofString "RULES"), key := Value.str (Str.ofString "RULES") 238, val := Value.ref 47 }, { hash := PyData.keyHash P (Str.ofString "comes_behind"), key := Value.str (Str.ofString "comes_behind") 246, val := Value.ref 54 }, { hash := PyData.keyHash P (Str.ofString "crossings"), key := Value.str (Str.ofString "crossings") 258, val := Value.ref 61 }, { hash := PyData.keyHash P (Str.ofString "is_inside"), key := Value.str (Str.ofString "is_inside") 266, val := Value.ref 68 }, { hash := PyData.keyHash P (Str.ofString "winding_at"), key := Value.str (Str.ofString "winding_at") 278, val := Value.ref 75 }, { hash := PyData.keyHash P (Str.ofString "step_of"), key := Value.str (Str.ofString "step_of") 286, val := Value.ref 82 }, { hash := PyData.keyHash P (Str.ofString "sample_place"), key := Value.str (Str.ofString "sample_place") 296, val := Value.ref 89 }, { hash := PyData.keyHash P (Str.ofString "ceiling"), key := Value.str (Str.ofString "ceiling") 304, val := Value.ref 96 }, { hash := PyData.keyHash P (Str.ofString "column_behind"), key := Value.str (Str.ofString "column_behind") 314, val := Value.ref 103 }, { hash := PyData.keyHash P (Str.ofString "check_rule"), key := Value.str (Str.ofString "check_rule") 321, val := Value.ref 110 }, { hash := PyData.keyHash P (Str.ofString "steps_of_row"), key := Value.str (Str.ofString "steps_of_row") 332, val := Value.ref 117 }, { hash := PyData.keyHash P (Str.ofString "spans_by"), key := Value.str (Str.ofString "spans_by") 346, val := Value.ref 124 }, { hash := PyData.keyHash P (Str.ofString "sample_spans"), key := Value.str (Str.ofString "sample_spans") 358, val := Value.ref 131 }, { hash := PyData.keyHash P (Str.ofString "Side"), key := Value.str (Str.ofString "Side") 421, val := Value.ref 169 }, { hash := PyData.keyHash P (Str.ofString "side_between"), key := Value.str (Str.ofString "side_between") 429, val := Value.ref 180 }, { hash := PyData.keyHash P (Str.ofString "sides_of_contour"), key := Value.str (Str.ofString "sides_of_contour") 442, val := Value.ref 187 }, { hash := PyData.keyHash P (Str.ofString "sides_of"), key := Value.str (Str.ofString "sides_of") 453, val := Value.ref 195 }, { hash := PyData.keyHash P (Str.ofString "_law_pool"), key := Value.str (Str.ofString "_law_pool") 466, val := Value.ref 202 }, { hash := PyData.keyHash P (Str.ofString "_law_take"), key := Value.str (Str.ofString "_law_take") 475, val := Value.ref 209 }, { hash := PyData.keyHash P (Str.ofString "_law_one"), key := Value.str (Str.ofString "_law_one") 483, val := Value.ref 216 }, { hash := PyData.keyHash P (Str.ofString "_law_contours"), key := Value.str (Str.ofString "_law_contours") 489, val := Value.ref 221 }, { hash := PyData.keyHash P (Str.ofString "_law_pairs"), key := Value.str (Str.ofString "_law_pairs") 495, val := Value.ref 226 }, { hash := PyData.keyHash P (Str.ofString "_law_winding"), key := Value.str (Str.ofString "_law_winding") 511, val := Value.ref 233 }, { hash := PyData.keyHash P (Str.ofString "_law_spans"), key := Value.str (Str.ofString "_law_spans") 527, val := Value.ref 240 }, { hash := PyData.keyHash P (Str.ofString "law"), key := Value.str (Str.ofString "law") 533, val := Value.ref 245 }] 36 }
noncomputable def q233 (P : Params) : Obj := { cls := Value.none, data := Data.fields #[Value.int (nat_lit 2) (nat_lit 0), Value.int (nat_lit 0) (nat_lit 0), Value.ref (nat_lit 20), Value.int (nat_lit 6) (nat_lit 0), Value.int (nat_lit 0) (nat_lit 0), Value.ref (nat_lit 40), Value.int (nat_lit 10) (nat_lit 0), Value.int (nat_lit 0) (nat_lit 0), Value.ref (nat_lit 53), Value.int (nat_lit 12) (nat_lit 0), Value.int (nat_lit 0) (nat_lit 0), Value.ref (nat_lit 60), Value.int (nat_lit 22) (nat_lit 0), Value.int (nat_lit 0) (nat_lit 0), Value.ref (nat_lit 67), Value.int (nat_lit 24) (nat_lit 0), Value.int (nat_lit 0) (nat_lit 0), Value.ref (nat_lit 74), Value.int (nat_lit 30) (nat_lit 0), Value.int (nat_lit 0) (nat_lit 0), Value.ref (nat_lit 81), Value.int (nat_lit 34) (nat_lit 0), Value.int (nat_lit 0) (nat_lit 0), Value.ref (nat_lit 88), Value.int (nat_lit 37) (nat_lit 0), Value.int (nat_lit 0) (nat_lit 0), Value.ref (nat_lit 95), Value.int (nat_lit 39) (nat_lit 0), Value.int (nat_lit 0) (nat_lit 0), Value.ref (nat_lit 102), Value.int (nat_lit 42) (nat_lit 0), Value.int (nat_lit 0) (nat_lit 0), Value.ref (nat_lit 109), Value.int (nat_lit 45) (nat_lit 0), Value.int (nat_lit 0) (nat_lit 0), Value.ref (nat_lit 116), Value.int (nat_lit 51) (nat_lit 0), Value.int (nat_lit 0) (nat_lit 0), Value.ref (nat_lit 123), Value.int (nat_lit 63) (nat_lit 0), Value.int (nat_lit 0) (nat_lit 0), Value.ref (nat_lit 130), Value.int (nat_lit 68) (nat_lit 0), Value.int (nat_lit 0) (nat_lit 0), Value.ref (nat_lit 137), Value.int (nat_lit 86) (nat_lit 0), Value.int (nat_lit 0) (nat_lit 0), Value.ref (nat_lit 179), Value.int (nat_lit 92) (nat_lit 0), Value.int (nat_lit 0) (nat_lit 0), Value.ref (nat_lit 186), Value.int (nat_lit 102) (nat_lit 0), Value.int (nat_lit 0) (nat_lit 0), Value.ref (nat_lit 194), Value.int (nat_lit 108) (nat_lit 0), Value.int (nat_lit 0) (nat_lit 0), Value.ref (nat_lit 201), Value.int (nat_lit 115) (nat_lit 0), Value.int (nat_lit 0) (nat_lit 0), Value.ref (nat_lit 208), Value.int (nat_lit 122) (nat_lit 0), Value.int (nat_lit 0) (nat_lit 0), Value.ref (nat_lit 215), Value.int (nat_lit 124) (nat_lit 0), Value.int (nat_lit 0) (nat_lit 0), Value.ref (nat_lit 220), Value.int (nat_lit 130) (nat_lit 0), Value.int (nat_lit 0) (nat_lit 0), Value.ref (nat_lit 225), Value.int (nat_lit 135) (nat_lit 0), Value.int (nat_lit 0) (nat_lit 0), Value.ref (nat_lit 232), Value.int (nat_lit 143) (nat_lit 0), Value.int (nat_lit 0) (nat_lit 0), Value.ref (nat_lit 239), Value.int (nat_lit 154) (nat_lit 0), Value.int (nat_lit 0) (nat_lit 0), Value.ref (nat_lit 244)] }
noncomputable def q234 (P : Params) : Obj := { cls := Value.type "tuple", data := Data.seq #[Value.bool true] }
noncomputable def q235 (P : Params) : Obj := { cls := Value.type "tuple", data := Data.seq #[] }
noncomputable def q236 (P : Params) : Obj := { cls := Value.none, data := Data.fields #[] }
noncomputable def q237 (P : Params) : Obj := { cls := Value.type "tuple", data := Data.seq #[Value.str (Str.ofString "contours") 446, Value.str (Str.ofString "is_closing") 447, Value.str (Str.ofString "found") 448, Value.str (Str.ofString "spots") 449, Value.str (Str.ofString "is_closed") 450] }
noncomputable def q238 (P : Params) : Obj := { cls := Value.type "tuple", data := Data.seq #[] }
noncomputable def q239 (_ : Params) : Obj := fnC (topSt (nat_lit 21)) (Str.ofString "sides_of") rfl
noncomputable def q240 (P : Params) : Obj := { cls := Value.type "code", data := Data.fields #[Value.str (Str.ofString "sides_of") 443, Value.str (Str.ofString "sides_of") 444, Value.str (Str.ofString "/claim/cut.py") 445, Value.int 102 0, Value.int 2 0, Value.int 0 0, Value.int 0 0, Value.int 3 0, Value.ref 189, Value.bool true, Value.int 181 0, Value.ref 190, Value.none, Value.ref 191, Value.ref 192, Value.ref 193, Value.int 451 0, Value.int 102 0, Value.str (Str.ofString "/claim/cut.py") 452] }
noncomputable def q241 (_ : Params) : Obj := fnO (topSt 21) (Str.ofString "sides_of") (Value.ref 188) (Value.str (Str.ofString "outlinemill.sides") 359) 194 rfl
noncomputable def q242 (P : Params) : Obj := { cls := Value.type "tuple", data := Data.seq #[] }
noncomputable def q243 (P : Params) : Obj := { cls := Value.none, data := Data.fields #[] }
noncomputable def q244 (P : Params) : Obj := { cls := Value.type "tuple", data := Data.seq #[Value.str (Str.ofString "script") 459, Value.str (Str.ofString "k") 460, Value.str (Str.ofString "cell") 461, Value.str (Str.ofString "big") 462, Value.str (Str.ofString "mixed") 463] }
noncomputable def q245 (P : Params) : Obj := { cls := Value.type "tuple", data := Data.seq #[] }
noncomputable def q246 (_ : Params) : Obj := fnC (topSt (nat_lit 23)) (Str.ofString "_law_pool") rfl
noncomputable def q247 (P : Params) : Obj := { cls := Value.type "code", data := Data.fields #[Value.str (Str.ofString "_law_pool") 456, Value.str (Str.ofString "_law_pool") 457, Value.str (Str.ofString "/claim/cut.py") 458, Value.int 108 0, Value.int 2 0, Value.int 0 0, Value.int 0 0, Value.int 3 0, Value.ref 196, Value.bool true, Value.int 181 0, Value.ref 197, Value.none, Value.ref 198, Value.ref 199, Value.ref 200, Value.int 464 0, Value.int 108 0, Value.str (Str.ofString "/claim/cut.py") 465] }
noncomputable def q248 (_ : Params) : Obj := fnO (topSt 23) (Str.ofString "_law_pool") (Value.none) (Value.str (Str.ofString "law_nu0008_01") 454) 201 rfl
noncomputable def q249 (P : Params) : Obj := { cls := Value.type "tuple", data := Data.seq #[] }
noncomputable def q250 (P : Params) : Obj := { cls := Value.none, data := Data.fields #[] }
noncomputable def q251 (P : Params) : Obj := { cls := Value.type "tuple", data := Data.seq #[Value.str (Str.ofString "source") 470, Value.str (Str.ofString "top") 471, Value.str (Str.ofString "drawn") 472] }
noncomputable def q252 (P : Params) : Obj := { cls := Value.type "tuple", data := Data.seq #[] }
noncomputable def q253 (_ : Params) : Obj := fnC (topSt (nat_lit 24)) (Str.ofString "_law_take") rfl
noncomputable def q254 (P : Params) : Obj := { cls := Value.type "code", data := Data.fields #[Value.str (Str.ofString "_law_take") 467, Value.str (Str.ofString "_law_take") 468, Value.str (Str.ofString "/claim/cut.py") 469, Value.int 115 0, Value.int 2 0, Value.int 0 0, Value.int 0 0, Value.int 3 0, Value.ref 203, Value.bool true, Value.int 181 0, Value.ref 204, Value.none, Value.ref 205, Value.ref 206, Value.ref 207, Value.int 473 0, Value.int 115 0, Value.str (Str.ofString "/claim/cut.py") 474] }
noncomputable def q255 (_ : Params) : Obj := fnO (topSt 24) (Str.ofString "_law_take") (Value.none) (Value.str (Str.ofString "law_nu0008_01") 454) 208 rfl
noncomputable def q256 (P : Params) : Obj := { cls := Value.type "tuple", data := Data.seq #[] }
noncomputable def q257 (P : Params) : Obj := { cls := Value.none, data := Data.fields #[] }
noncomputable def q258 (P : Params) : Obj := { cls := Value.type "tuple", data := Data.seq #[Value.str (Str.ofString "source") 479, Value.str (Str.ofString "things") 480] }
noncomputable def q259 (P : Params) : Obj := { cls := Value.type "tuple", data := Data.seq #[] }
noncomputable def q260 (_ : Params) : Obj := fnC (topSt (nat_lit 25)) (Str.ofString "_law_one") rfl
noncomputable def q261 (P : Params) : Obj := { cls := Value.type "code", data := Data.fields #[Value.str (Str.ofString "_law_one") 476, Value.str (Str.ofString "_law_one") 477, Value.str (Str.ofString "/claim/cut.py") 478, Value.int 122 0, Value.int 2 0, Value.int 0 0, Value.int 0 0, Value.int 3 0, Value.ref 210, Value.bool true, Value.int 181 0, Value.ref 211, Value.none, Value.ref 212, Value.ref 213, Value.ref 214, Value.int 481 0, Value.int 122 0, Value.str (Str.ofString "/claim/cut.py") 482] }
noncomputable def q262 (_ : Params) : Obj := fnO (topSt 25) (Str.ofString "_law_one") (Value.none) (Value.str (Str.ofString "law_nu0008_01") 454) 215 rfl
noncomputable def q263 (P : Params) : Obj := { cls := Value.type "tuple", data := Data.seq #[] }
noncomputable def q264 (P : Params) : Obj := { cls := Value.none, data := Data.fields #[] }
noncomputable def q265 (_ : Params) : Obj := fnC (topSt (nat_lit 26)) (Str.ofString "_law_contours") rfl
noncomputable def q266 (P : Params) : Obj := { cls := Value.type "code", data := Data.fields #[Value.str (Str.ofString "_law_contours") 484, Value.str (Str.ofString "_law_contours") 485, Value.str (Str.ofString "/claim/cut.py") 486, Value.int 124 0, Value.int 1 0, Value.int 0 0, Value.int 0 0, Value.int 3 0, Value.ref 217, Value.bool true, Value.int 181 0, Value.ref 218, Value.none, Value.none, Value.none, Value.ref 219, Value.int 487 0, Value.int 124 0, Value.str (Str.ofString "/claim/cut.py") 488] }
noncomputable def q267 (_ : Params) : Obj := fnO (topSt 26) (Str.ofString "_law_contours") (Value.none) (Value.str (Str.ofString "law_nu0008_01") 454) 220 rfl
noncomputable def q268 (P : Params) : Obj := { cls := Value.type "tuple", data := Data.seq #[] }
noncomputable def q269 (P : Params) : Obj := { cls := Value.none, data := Data.fields #[] }
noncomputable def q270 (_ : Params) : Obj := fnC (topSt (nat_lit 27)) (Str.ofString "_law_pairs") rfl
noncomputable def q271 (P : Params) : Obj := { cls := Value.type "code", data := Data.fields #[Value.str (Str.ofString "_law_pairs") 490, Value.str (Str.ofString "_law_pairs") 491, Value.str (Str.ofString "/claim/cut.py") 492, Value.int 130 0, Value.int 1 0, Value.int 0 0, Value.int 0 0, Value.int 3 0, Value.ref 222, Value.bool true, Value.int 181 0, Value.ref 223, Value.none, Value.none, Value.none, Value.ref 224, Value.int 493 0, Value.int 130 0, Value.str (Str.ofString "/claim/cut.py") 494] }
noncomputable def q272 (_ : Params) : Obj := fnO (topSt 27) (Str.ofString "_law_pairs") (Value.none) (Value.str (Str.ofString "law_nu0008_01") 454) 225 rfl
noncomputable def q273 (P : Params) : Obj := { cls := Value.type "tuple", data := Data.seq #[] }
noncomputable def q274 (P : Params) : Obj := { cls := Value.none, data := Data.fields #[] }
noncomputable def q275 (P : Params) : Obj := { cls := Value.type "tuple", data := Data.seq #[Value.str (Str.ofString "pairs") 499, Value.str (Str.ofString "x") 500, Value.str (Str.ofString "y") 501, Value.str (Str.ofString "found") 502, Value.str (Str.ofString "one") 503, Value.str (Str.ofString "other") 504, Value.str (Str.ofString "upper") 505, Value.str (Str.ofString "lower") 506, Value.str (Str.ofString "high") 507, Value.str (Str.ofString "wide") 508] }
noncomputable def q276 (P : Params) : Obj := { cls := Value.type "tuple", data := Data.seq #[] }
noncomputable def q277 (_ : Params) : Obj := fnC (topSt (nat_lit 28)) (Str.ofString "_law_winding") rfl
noncomputable def q278 (P : Params) : Obj := { cls := Value.type "code", data := Data.fields #[Value.str (Str.ofString "_law_winding") 496, Value.str (Str.ofString "_law_winding") 497, Value.str (Str.ofString "/claim/cut.py") 498, Value.int 135 0, Value.int 3 0, Value.int 0 0, Value.int 0 0, Value.int 3 0, Value.ref 227, Value.bool true, Value.int 181 0, Value.ref 228, Value.none, Value.ref 229, Value.ref 230, Value.ref 231, Value.int 509 0, Value.int 135 0, Value.str (Str.ofString "/claim/cut.py") 510] }
noncomputable def q279 (_ : Params) : Obj := fnO (topSt 28) (Str.ofString "_law_winding") (Value.none) (Value.str (Str.ofString "law_nu0008_01") 454) 232 rfl
noncomputable def q280 (P : Params) : Obj := { cls := Value.type "tuple", data := Data.seq #[] }
noncomputable def q281 (P : Params) : Obj := { cls := Value.none, data := Data.fields #[] }
noncomputable def q282 (P : Params) : Obj := { cls := Value.type "tuple", data := Data.seq #[Value.str (Str.ofString "pairs") 515, Value.str (Str.ofString "row") 516, Value.str (Str.ofString "rule") 517, Value.str (Str.ofString "fine") 518, Value.str (Str.ofString "grain") 519, Value.str (Str.ofString "step") 520, Value.str (Str.ofString "found") 521, Value.str (Str.ofString "y") 522, Value.str (Str.ofString "column") 523, Value.str (Str.ofString "winding") 524] }
noncomputable def q283 (P : Params) : Obj := { cls := Value.type "tuple", data := Data.seq #[] }
noncomputable def q284 (_ : Params) : Obj := fnC (topSt (nat_lit 29)) (Str.ofString "_law_spans") rfl
noncomputable def q285 (P : Params) : Obj := { cls := Value.type "code", data := Data.fields #[Value.str (Str.ofString "_law_spans") 512, Value.str (Str.ofString "_law_spans") 513, Value.str (Str.ofString "/claim/cut.py") 514, Value.int 143 0, Value.int 5 0, Value.int 0 0, Value.int 0 0, Value.int 3 0, Value.ref 234, Value.bool true, Value.int 181 0, Value.ref 235, Value.none, Value.ref 236, Value.ref 237, Value.ref 238, Value.int 525 0, Value.int 143 0, Value.str (Str.ofString "/claim/cut.py") 526] }
noncomputable def q286 (_ : Params) : Obj := fnO (topSt 29) (Str.ofString "_law_spans") (Value.none) (Value.str (Str.ofString "law_nu0008_01") 454) 239 rfl
noncomputable def q287 (P : Params) : Obj := { cls := Value.type "tuple", data := Data.seq #[] }
noncomputable def q288 (P : Params) : Obj := { cls := Value.none, data := Data.fields #[] }
noncomputable def q289 (_ : Params) : Obj := fnC (topSt (nat_lit 30)) (Str.ofString "law") rfl
noncomputable def q290 (P : Params) : Obj := { cls := Value.type "code", data := Data.fields #[Value.str (Str.ofString "law") 528, Value.str (Str.ofString "law") 529, Value.str (Str.ofString "/claim/cut.py") 530, Value.int 154 0, Value.int 1 0, Value.int 0 0, Value.int 0 0, Value.int 3 0, Value.ref 241, Value.bool true, Value.int 181 0, Value.ref 242, Value.none, Value.none, Value.none, Value.ref 243, Value.int 531 0, Value.int 154 0, Value.str (Str.ofString "/claim/cut.py") 532] }
noncomputable def q291 (_ : Params) : Obj := fnO (topSt 30) (Str.ofString "law") (Value.none) (Value.str (Str.ofString "law_nu0008_01") 454) 244 rfl
noncomputable def hF (P : Params) (x2 : Obj) (x3 : Obj) (x12 : Obj) (l : List Obj) : Heap := { objs := Array.mk (boot_o_0 P :: boot_o_1 P :: x2 :: x3 :: boot_o_4 P :: boot_o_5 P :: boot_o_6 P :: boot_o_7 P :: boot_o_8 P :: boot_o_9 P :: boot_o_10 P :: q43 P :: x12 :: q45 P :: q46 P :: l), life := {} }
noncomputable def hc1_15 (P : Params) (l : List Obj) : List Obj := q52 P :: q53 P :: q54 P :: q55 P :: q56 P :: q57 P :: q58 P :: q59 P :: q60 P :: q61 P :: q62 P :: q63 P :: q64 P :: q65 P :: q66 P :: q67 P :: l
noncomputable def hc1_32 (P : Params) (l : List Obj) : List Obj := q69 P :: q70 P :: q71 P :: l
noncomputable def hc2_35 (P : Params) (l : List Obj) : List Obj := q75 P :: q76 P :: q77 P :: q78 P :: q79 P :: q80 P :: q81 P :: q82 P :: q83 P :: q84 P :: q85 P :: q86 P :: q87 P :: q88 P :: q89 P :: q90 P :: q91 P :: q92 P :: q93 P :: q94 P :: q95 P :: q96 P :: q97 P :: q98 P :: q99 P :: q100 P :: q101 P :: q102 P :: q103 P :: q104 P :: q105 P :: q106 P :: q107 P :: q108 P :: q109 P :: q110 P :: q111 P :: q112 P :: q113 P :: q114 P :: q115 P :: q116 P :: q117 P :: q118 P :: q119 P :: q120 P :: q121 P :: q122 P :: l
noncomputable def hc3_83 (P : Params) (l : List Obj) : List Obj := q125 P :: q126 P :: q127 P :: q128 P :: q129 P :: q130 P :: q131 P :: q132 P :: q133 P :: q134 P :: q135 P :: q136 P :: q137 P :: q138 P :: q139 P :: q140 P :: q141 P :: q142 P :: q143 P :: q144 P :: q145 P :: q146 P :: q147 P :: q148 P :: q149 P :: q150 P :: q151 P :: q152 P :: q153 P :: q154 P :: q155 P :: q156 P :: q157 P :: q158 P :: q159 P :: q160 P :: q161 P :: q162 P :: q163 P :: q164 P :: q165 P :: q166 P :: q167 P :: q168 P :: q169 P :: q170 P :: q171 P :: q172 P :: q173 P :: l
noncomputable def hc4_132 (P : Params) (l : List Obj) : List Obj := q176 P :: q177 P :: q178 P :: q179 P :: q180 P :: q181 P :: q182 P :: q183 P :: q184 P :: q185 P :: q186 P :: q187 P :: q188 P :: q189 P :: q190 P :: q191 P :: q192 P :: q193 P :: q194 P :: q195 P :: q196 P :: q197 P :: q198 P :: q199 P :: q200 P :: q201 P :: q202 P :: q203 P :: q204 P :: q205 P :: q206 P :: q207 P :: q208 P :: q209 P :: q210 P :: q211 P :: q212 P :: q213 P :: q214 P :: q215 P :: q216 P :: q217 P :: q218 P :: q219 P :: q220 P :: q221 P :: q222 P :: q223 P :: q224 P :: q225 P :: q226 P :: q227 P :: q228 P :: q229 P :: q230 P :: q231 P :: l
noncomputable def hc5_188 (P : Params) (l : List Obj) : List Obj := q234 P :: q235 P :: q236 P :: q237 P :: q238 P :: q239 P :: q240 P :: q241 P :: q242 P :: q243 P :: q244 P :: q245 P :: q246 P :: q247 P :: q248 P :: q249 P :: q250 P :: q251 P :: q252 P :: q253 P :: q254 P :: q255 P :: q256 P :: q257 P :: q258 P :: q259 P :: q260 P :: q261 P :: q262 P :: q263 P :: q264 P :: q265 P :: q266 P :: q267 P :: q268 P :: q269 P :: q270 P :: q271 P :: q272 P :: q273 P :: q274 P :: q275 P :: q276 P :: q277 P :: q278 P :: q279 P :: q280 P :: q281 P :: q282 P :: q283 P :: q284 P :: q285 P :: q286 P :: q287 P :: q288 P :: q289 P :: q290 P :: q291 P :: l
/-- the objects behind piece 0 of the top -/
noncomputable def hp0 : Params → Heap := fun P => hF P (boot_o_2 P) (boot_o_3 P) (q44 P) []
/-- the objects behind piece 1 of the top -/
noncomputable def hp1 : Params → Heap := fun P => hF P (q49 P) (q50 P) (q51 P) (hc1_15 P (q68 P :: (hc1_32 P [])))
/-- the objects behind piece 2 of the top -/
noncomputable def hp2 : Params → Heap := fun P => hF P (q49 P) (q72 P) (q73 P) (hc1_15 P (q74 P :: (hc1_32 P (hc2_35 P []))))
/-- the objects behind piece 3 of the top -/
noncomputable def hp3 : Params → Heap := fun P => hF P (q49 P) (q123 P) (q124 P) (hc1_15 P (q74 P :: (hc1_32 P (hc2_35 P (hc3_83 P [])))))
/-- the objects behind piece 4 of the top -/
noncomputable def hp4 : Params → Heap := fun P => hF P (q49 P) (q174 P) (q175 P) (hc1_15 P (q74 P :: (hc1_32 P (hc2_35 P (hc3_83 P (hc4_132 P []))))))
/-- the objects behind piece 5 of the top -/
noncomputable def hp5 : Params → Heap := fun P => hF P (q49 P) (q232 P) (q233 P) (hc1_15 P (q74 P :: (hc1_32 P (hc2_35 P (hc3_83 P (hc4_132 P (hc5_188 P [])))))))
/-- the objects that the top leaves and that the law reaches -/
noncomputable def hK : Params → Frag := fun P =>
  (nat_lit 2, q49 P) ::
  (nat_lit 3, q232 P) ::
  (nat_lit 15, q52 P) ::
  (nat_lit 22, q59 P) ::
  (nat_lit 24, q61 P) ::
  (nat_lit 25, q62 P) ::
  (nat_lit 27, q64 P) ::
  (nat_lit 28, q65 P) ::
  (nat_lit 29, q66 P) ::
  (nat_lit 30, q67 P) ::
  (nat_lit 31, q74 P) ::
  (nat_lit 32, q69 P) ::
  (nat_lit 35, q75 P) ::
  (nat_lit 42, q82 P) ::
  (nat_lit 43, q83 P) ::
  (nat_lit 44, q84 P) ::
  (nat_lit 47, q87 P) ::
  (nat_lit 48, q88 P) ::
  (nat_lit 50, q90 P) ::
  (nat_lit 51, q91 P) ::
  (nat_lit 53, q93 P) ::
  (nat_lit 54, q94 P) ::
  (nat_lit 55, q95 P) ::
  (nat_lit 57, q97 P) ::
  (nat_lit 58, q98 P) ::
  (nat_lit 60, q100 P) ::
  (nat_lit 61, q101 P) ::
  (nat_lit 62, q102 P) ::
  (nat_lit 64, q104 P) ::
  (nat_lit 65, q105 P) ::
  (nat_lit 67, q107 P) ::
  (nat_lit 68, q108 P) ::
  (nat_lit 69, q109 P) ::
  (nat_lit 71, q111 P) ::
  (nat_lit 72, q112 P) ::
  (nat_lit 74, q114 P) ::
  (nat_lit 75, q115 P) ::
  (nat_lit 76, q116 P) ::
  (nat_lit 78, q118 P) ::
  (nat_lit 79, q119 P) ::
  (nat_lit 81, q121 P) ::
  (nat_lit 82, q122 P) ::
  (nat_lit 83, q125 P) ::
  (nat_lit 85, q127 P) ::
  (nat_lit 86, q128 P) ::
  (nat_lit 88, q130 P) ::
  (nat_lit 89, q131 P) ::
  (nat_lit 90, q132 P) ::
  (nat_lit 92, q134 P) ::
  (nat_lit 93, q135 P) ::
  (nat_lit 95, q137 P) ::
  (nat_lit 96, q138 P) ::
  (nat_lit 97, q139 P) ::
  (nat_lit 99, q141 P) ::
  (nat_lit 100, q142 P) ::
  (nat_lit 102, q144 P) ::
  (nat_lit 103, q145 P) ::
  (nat_lit 104, q146 P) ::
  (nat_lit 106, q148 P) ::
  (nat_lit 107, q149 P) ::
  (nat_lit 109, q151 P) ::
  (nat_lit 110, q152 P) ::
  (nat_lit 111, q153 P) ::
  (nat_lit 113, q155 P) ::
  (nat_lit 114, q156 P) ::
  (nat_lit 116, q158 P) ::
  (nat_lit 117, q159 P) ::
  (nat_lit 118, q160 P) ::
  (nat_lit 120, q162 P) ::
  (nat_lit 121, q163 P) ::
  (nat_lit 123, q165 P) ::
  (nat_lit 124, q166 P) ::
  (nat_lit 125, q167 P) ::
  (nat_lit 127, q169 P) ::
  (nat_lit 128, q170 P) ::
  (nat_lit 130, q172 P) ::
  (nat_lit 131, q173 P) ::
  (nat_lit 139, q183 P) ::
  (nat_lit 141, q185 P) ::
  (nat_lit 142, q186 P) ::
  (nat_lit 144, q188 P) ::
  (nat_lit 145, q189 P) ::
  (nat_lit 146, q190 P) ::
  (nat_lit 148, q192 P) ::
  (nat_lit 149, q193 P) ::
  (nat_lit 151, q195 P) ::
  (nat_lit 152, q196 P) ::
  (nat_lit 153, q197 P) ::
  (nat_lit 155, q199 P) ::
  (nat_lit 156, q200 P) ::
  (nat_lit 158, q202 P) ::
  (nat_lit 159, q203 P) ::
  (nat_lit 160, q204 P) ::
  (nat_lit 162, q206 P) ::
  (nat_lit 163, q207 P) ::
  (nat_lit 165, q209 P) ::
  (nat_lit 166, q210 P) ::
  (nat_lit 167, q211 P) ::
  (nat_lit 168, q212 P) ::
  (nat_lit 169, q213 P) ::
  (nat_lit 170, q214 P) ::
  (nat_lit 171, q215 P) ::
  (nat_lit 174, q218 P) ::
  (nat_lit 176, q220 P) ::
  (nat_lit 177, q221 P) ::
  (nat_lit 179, q223 P) ::
  (nat_lit 180, q224 P) ::
  (nat_lit 181, q225 P) ::
  (nat_lit 183, q227 P) ::
  (nat_lit 184, q228 P) ::
  (nat_lit 186, q230 P) ::
  (nat_lit 187, q231 P) ::
  (nat_lit 188, q234 P) ::
  (nat_lit 189, q235 P) ::
  (nat_lit 191, q237 P) ::
  (nat_lit 192, q238 P) ::
  (nat_lit 194, q240 P) ::
  (nat_lit 195, q241 P) ::
  (nat_lit 196, q242 P) ::
  (nat_lit 198, q244 P) ::
  (nat_lit 199, q245 P) ::
  (nat_lit 201, q247 P) ::
  (nat_lit 202, q248 P) ::
  (nat_lit 203, q249 P) ::
  (nat_lit 205, q251 P) ::
  (nat_lit 206, q252 P) ::
  (nat_lit 208, q254 P) ::
  (nat_lit 209, q255 P) ::
  (nat_lit 210, q256 P) ::
  (nat_lit 212, q258 P) ::
  (nat_lit 213, q259 P) ::
  (nat_lit 215, q261 P) ::
  (nat_lit 216, q262 P) ::
  (nat_lit 217, q263 P) ::
  (nat_lit 220, q266 P) ::
  (nat_lit 221, q267 P) ::
  (nat_lit 222, q268 P) ::
  (nat_lit 225, q271 P) ::
  (nat_lit 226, q272 P) ::
  (nat_lit 227, q273 P) ::
  (nat_lit 229, q275 P) ::
  (nat_lit 230, q276 P) ::
  (nat_lit 232, q278 P) ::
  (nat_lit 233, q279 P) ::
  (nat_lit 234, q280 P) ::
  (nat_lit 236, q282 P) ::
  (nat_lit 237, q283 P) ::
  (nat_lit 239, q285 P) ::
  (nat_lit 240, q286 P) ::
  (nat_lit 241, q287 P) ::
  (nat_lit 244, q290 P) ::
  (nat_lit 245, q291 P) :: []
/-- their addresses -/
noncomputable def hA : List Addr := [2, 3, 15, 22, 24, 25, 27, 28, 29, 30, 31, 32, 35, 42, 43, 44, 47, 48, 50, 51, 53, 54, 55, 57, 58, 60, 61, 62, 64, 65, 67, 68, 69, 71, 72, 74, 75, 76, 78, 79, 81, 82, 83, 85, 86, 88, 89, 90, 92, 93, 95, 96, 97, 99, 100, 102, 103, 104, 106, 107, 109, 110, 111, 113, 114, 116, 117, 118, 120, 121, 123, 124, 125, 127, 128, 130, 131, 139, 141, 142, 144, 145, 146, 148, 149, 151, 152, 153, 155, 156, 158, 159, 160, 162, 163, 165, 166, 167, 168, 169, 170, 171, 174, 176, 177, 179, 180, 181, 183, 184, 186, 187, 188, 189, 191, 192, 194, 195, 196, 198, 199, 201, 202, 203, 205, 206, 208, 209, 210, 212, 213, 215, 216, 217, 220, 221, 222, 225, 226, 227, 229, 230, 232, 233, 234, 236, 237, 239, 240, 241, 244, 245]
/-- the text without the statements that the head does not read -/
noncomputable def hV : Program := view PySem.Challenge.pw_nu0008_01 [1, 2, 4, 5, 6, 7, 8, 9, 10, 11, 12, 13, 14, 15, 16, 18, 19, 20, 23, 24, 25, 26, 27, 28, 29, 30]
end
section
theorem hA_ok : ∀ P, hA = (hK P).map (·.1) := fun _ => by kernel_rfl
theorem nOk : namesOk hV (looseW hV [Str.ofString "sides_of"]) (namesW hV [Str.ofString "sides_of"]) = true := by kernel_rfl
theorem iNo : importsNone hV = true := by kernel_rfl
/-! the look at the text, part by part -/
theorem sd1 : sreFenced PySem.Challenge.rw_nu0008_01.row.prog.main = true := by kernel_rfl
theorem sd2 : ((moduleNames PySem.Challenge.rw_nu0008_01.row.prog.main.body).isEmpty || lookedIntoSs (moduleNames PySem.Challenge.rw_nu0008_01.row.prog.main.body) PySem.Challenge.rw_nu0008_01.row.prog.main.body) = true := by kernel_rfl
theorem sd3 : namesResolve PySem.Challenge.rw_nu0008_01.row.prog = true := by kernel_rfl
theorem sd4 : PySem.Challenge.rw_nu0008_01.row.prog.boundNames.all (fun n => !worldNames.contains n) = true := by kernel_rfl
theorem sd6 : (namesMeet PySem.Challenge.rw_nu0008_01.row.prog PySem.Challenge.rw_nu0008_01.row.prog.main.body fun _ n => attrL n) = true := by kernel_rfl
theorem sdL : looksOpen PySem.Challenge.rw_nu0008_01.row.prog = true := by
  unfold looksOpen
  repeat' (with_reducible refine look_both ?_ ?_)
  all_goals (first | (with_reducible exact sd1) | (with_reducible exact sd2) | (with_reducible exact sd3) | (with_reducible exact sd4) | (with_reducible exact sd6) | kernel_rfl)
theorem sdP : PySem.Challenge.rw_nu0008_01.row.partSaid = true := by
  unfold OpenRow.partSaid
  repeat' (with_reducible refine look_both ?_ ?_)
  all_goals (first | (with_reducible exact sdL) | kernel_rfl)
theorem sdR : PySem.Challenge.rw_nu0008_01.row.wellSaid = true := by
  unfold OpenRow.wellSaid
  repeat' (with_reducible refine look_both ?_ ?_)
  all_goals (first | (with_reducible exact sdP) | kernel_rfl)
theorem saidT : PySem.Challenge.rw_nu0008_01.wellSaid = true := by
  unfold OpenLaw.wellSaid
  repeat' (with_reducible refine look_both ?_ ?_)
  all_goals (first | (with_reducible exact sdR) | kernel_rfl)
/-! the top's run, piece by piece -/
noncomputable def hP : Program := PySem.Challenge.rw_nu0008_01.row.toRowW.prog
noncomputable def hE : Env := { scope := hP.main.scope, locals := mainNs, globals := mainNs, cells := [], code := .ref 13, frame := some 14 }
noncomputable def hB : List Stmt := behindTheImports hP
noncomputable def hC : Code := .body hB hE
noncomputable def hO : Pos := { line := 0, col := 0, endLine := 0, endCol := 0 }
noncomputable def hS (h : Params → Heap) (t : Nat) (w : World) (os : OsState) : Shared := { heap := h w.params, gens := #[], drawn := {}, toks := t, os := os }
noncomputable def hS0 (w : World) (os : OsState) : Shared := { heap := boot_heap w.params, gens := #[], drawn := boot_drawn, toks := boot_toks, os := os }
noncomputable def hN : Option Value := some (.ref 6)
noncomputable def g1 : List Stmt := hB.take 2
noncomputable def g2 : List Stmt := (hB.drop 2).take 8
noncomputable def g3 : List Stmt := (hB.drop 10).take 8
noncomputable def g4 : List Stmt := (hB.drop 18).take 3
noncomputable def g5 : List Stmt := hB.drop 21
theorem run0 (w : World) (os : OsState) : topGo treeTable hP w 11 hN 12 (hS0 w os) (topStub hP) = some (hS hp0 187 w os, { cur := denote treeTable hC, code := hC, pos := hO, stack := [topFrame hO] }) := by kernel_rfl
theorem runB (w : World) (os : OsState) : segRun treeTable hP w 11 hN 1 1 (hS hp0 187 w os) (blockOf hB hE hC hO [topFrame hO]) = some (.next, hS hp0 187 w os, hC, hO) := by kernel_rfl
theorem run1 (w : World) (os : OsState) : segRun treeTable hP w 11 hN 1 238 (hS hp0 187 w os) (piecesOf g1 hE hC hO [topFrame hO]) = some (.next, hS hp1 218 w os, hC, ⟨2, 0, 5, 30⟩) := by kernel_rfl
theorem run2 (w : World) (os : OsState) : segRun treeTable hP w 11 hN 1 393 (hS hp1 218 w os) (piecesOf g2 hE hC ⟨2, 0, 5, 30⟩ [topFrame hO]) = some (.next, hS hp2 287 w os, hC, ⟨30, 0, 33, 24⟩) := by kernel_rfl
theorem run3 (w : World) (os : OsState) : segRun treeTable hP w 11 hN 1 236 (hS hp2 287 w os) (piecesOf g3 hE hC ⟨30, 0, 33, 24⟩ [topFrame hO]) = some (.next, hS hp3 361 w os, hC, ⟨67, 0, 67, 8⟩) := by kernel_rfl
theorem run4 (w : World) (os : OsState) : segRun treeTable hP w 11 hN 1 392 (hS hp3 361 w os) (piecesOf g4 hE hC ⟨67, 0, 67, 8⟩ [topFrame hO]) = some (.next, hS hp4 443 w os, hC, ⟨92, 0, 101, 16⟩) := by kernel_rfl
theorem run5 (w : World) (os : OsState) : segRun treeTable hP w 11 hN 1 292 (hS hp4 443 w os) (piecesOf g5 hE hC ⟨92, 0, 101, 16⟩ [topFrame hO]) = some (.next, hS hp5 534 w os, hC, ⟨154, 0, 175, 15⟩) := by kernel_rfl
theorem run6 (w : World) (os : OsState) : topRun treeTable hP w 11 hN 2 (hS hp5 534 w os) (restOf [] hE hC ⟨154, 0, 175, 15⟩ [topFrame hO]) = some (hS hp5 534 w os) := by kernel_rfl
theorem hB_eq : hB = g1 ++ (g2 ++ (g3 ++ (g4 ++ (g5 ++ [])))) := by kernel_rfl
theorem runT (w : World) (os : OsState) : topRun treeTable hP w 11 hN (12 + (1 + (238 + (393 + (236 + (392 + (292 + 2))))))) (hS0 w os) (topStub hP) = some (hS hp5 534 w os) := by
  refine go_top (run0 w os) (piece_block (runB w os) ?_)
  rw [hB_eq]
  exact piece_app (run1 w os) (piece_app (run2 w os) (piece_app (run3 w os) (piece_app (run4 w os) (piece_app (run5 w os) (run6 w os)))))
end
section
theorem openT : ∀ w : World, (fencedOpening treeTable hP w 3218).map (fun s => (s.heap, s.gens, s.drawn, s.toks)) = some (boot_heap w.params, #[], boot_drawn, boot_toks) :=
  boot_open (p := hP) (N := 3218) (by kernel_rfl) (by decide) (fun s => by kernel_rfl)
theorem sizeT : ∀ w : World, (((boot_heap w.params).isNs mainGlobals && (#[] : Array GenState).size == 0, (boot_heap w.params).objs.size, (boot_heap w.params).nsMap mainGlobals "__annotations__") : Bool × Nat × Option Value) = (true, 11, hN) := fun w => by kernel_rfl
theorem left0 : LeftO PySem.Challenge.rw_nu0008_01.row.toRowW.prog hV [Str.ofString "sides_of"] (fun s => xlAt hV [] s && recOk (RowW.records PySem.Challenge.rw_nu0008_01.row.toRowW) s) (kHook hK hA hA_ok).obs (kHook hK hA hA_ok).val 3218 :=
  LeftO.of_pieces (H₀ := boot_heap) (H₁ := hp5) (gs₀ := #[]) (gs₁ := #[]) (d₀ := boot_drawn) (d₁ := {}) (k₀ := boot_toks) (k₁ := 534) (m₀ := 11) (ann := hN) (M := 12 + (1 + (238 + (393 + (236 + (392 + (292 + 2)))))))
    openT sizeT runT (by kernel_rfl) (fun w => funext fun os => by kernel_rfl)
end
section
noncomputable def Tel (f : Addr) (dd uu : Nat) (vs : List Value) (Pre : List (Addr × Obj) → Prop) (Out : List (Addr × Obj) → Value → Prop) : Prop :=
  ∀ (prog : Program) (w : World) (p : Program) (loose : List Str) (mean : ExcName → Option Value) (mg mb : Str → Option Value)
    (dp un : Nat) (gd : Option (List Code)) (cn : Str) (cs : Scope) (a : Addr) (ccd : Value) (cl : List (Str × Addr)) (outer : List Env) (A₀ : Around) (base h₀ : Heap) (L : Addr) (m : Str → Option Value) (news : List (Addr × Obj)) (s : Shared)
    (Q E : Value → Shared → Prop),
    Below A₀ base outer h₀ → Fr h₀ L s.heap m → (hK w.params).In h₀ → News h₀ L s.heap news → Top p loose mean mg mb h₀ → cs.kind = .function → Pre news → dp + dd < recursionLimit → un + uu < cLine →
    (∀ r tl h' tk', Fr h₀ L h' m → News h₀ L h' (news ++ tl) → (∀ q ∈ news, ∀ p ∈ tl, q.1 < p.1) → Out (news ++ tl) r → Q r { s with heap := h', toks := tk' }) →
    wpAny (model prog w) (ktrTop dp un gd cn cs L a ccd cl outer) (call (.ref f) vs) Q E s
noncomputable abbrev tupOf (vs : List Value) (n : Nat) : Obj := { cls := .type "tuple", data := .seq vs.toArray n }
/-- the crossing ((num, den), way) -/
noncomputable abbrev crD (c : Int × Int × Int) : Dat := .tuple [.tuple [.int c.1, .int c.2.1], .int c.2.2]
section
variable {news : List (Addr × Obj)} {v : Value} {vs : List Value}
theorem tup_inv {ds : List Dat} (h : DatIn news v (.tuple ds)) : ∃ a n vs, v = .ref a ∧ (a, tupOf vs n) ∈ news ∧ DatAll news vs ds := by
  cases h with
  | tuple hm hr => exact ⟨_, _, _, rfl, hm, hr⟩
theorem int_inv {i : Int} (h : DatIn news v (.int i)) : ∃ t, v = .int i t := by
  cases h; exact ⟨_, rfl⟩
theorem bool_inv {b : Bool} (h : DatIn news v (.bool b)) : v = .bool b := by
  cases h; rfl
theorem cons_inv {d : Dat} {ds : List Dat} (h : DatAll news vs (d :: ds)) : ∃ v ws, vs = v :: ws ∧ DatIn news v d ∧ DatAll news ws ds := by
  cases h with
  | cons h1 hr => exact ⟨_, _, rfl, h1, hr⟩
theorem nil_inv (h : DatAll news vs []) : vs = [] := by
  cases h; rfl
theorem two_inv {d1 d2 : Dat} (h : DatIn news v (.tuple [d1, d2])) : ∃ a n v1 v2, v = .ref a ∧ (a, tupOf [v1, v2] n) ∈ news ∧ DatIn news v1 d1 ∧ DatIn news v2 d2 := by
  obtain ⟨a, n, vs, rfl, hm, hr⟩ := tup_inv h
  obtain ⟨v1, w1, rfl, h1, hr⟩ := cons_inv hr
  obtain ⟨v2, w2, rfl, h2, hr⟩ := cons_inv hr
  cases nil_inv hr
  exact ⟨a, n, v1, v2, rfl, hm, h1, h2⟩
end
theorem cr_inv {news : List (Addr × Obj)} {v : Value} {c : Int × Int × Int} (h : DatIn news v (crD c)) :
    ∃ a b n k t1 t2 t3, v = .ref a ∧ (a, tupOf [.ref b, .int c.2.2 t3] n) ∈ news ∧ (b, tupOf [.int c.1 t1, .int c.2.1 t2] k) ∈ news := by
  obtain ⟨a, n, v1, v2, rfl, hm, h1, h2⟩ := two_inv h
  obtain ⟨b, k, v3, v4, rfl, hm1, h3, h4⟩ := two_inv h1
  obtain ⟨t3, rfl⟩ := int_inv h2
  obtain ⟨t1, rfl⟩ := int_inv h3
  obtain ⟨t2, rfl⟩ := int_inv h4
  exact ⟨a, b, n, k, t1, t2, t3, rfl, hm, hm1⟩
end
section
/-- one step of an iterator, up to the target -/
structure Steps (prog : Program) (w : World) (A : Around) (target : PySem.Expr) (I : Addr) (fp wr : List Addr) (n : Nat) (P : Nat → Value → Heap → Prop) (St : Nat → Heap → Prop) : Prop where
  sub : ∀ b ∈ wr, b ∈ fp
  frame : ∀ i h h', St i h → (∀ b ∈ fp, ∀ o, h.get? b = some o → h'.get? b = some o) → St i h'
  item : ∀ i (s : Shared) (Q : Value → Shared → Prop) (E : Value → Shared → Prop), i < n → St i s.heap →
    (∀ v h' tk, P i v h' → St (i + 1) h' → (∀ b o, b ∉ wr → s.heap.get? b = some o → h'.get? b = some o) → Q v { s with heap := h', toks := tk }) →
    wpAny (model prog w) A (pyNext (.ref I)) (fun r s₁ => match r with
      | none => False
      | some v => wpAny (model prog w) A (letOwnedTupleGo target (.ref I) v) (fun _ s₂ => Q v s₂) E s₁) E s
  done : ∀ (s : Shared) (Q : Option Value → Shared → Prop) (E : Value → Shared → Prop), St n s.heap →
    (∀ h' tk, (∀ b o, b ∉ wr → s.heap.get? b = some o → h'.get? b = some o) → Q none { s with heap := h', toks := tk }) → wpAny (model prog w) A (pyNext (.ref I)) Q E s
section
variable {prog : Program} {w : World} {A : Around} {target : PySem.Expr} {I : Addr} {fp wr : List Addr} {n : Nat}
theorem Steps.ofWalks {P : Nat → Value → Prop} {St : Nat → Heap → Prop} (W : Walks prog w A I fp wr n P St)
    (hgo : ∀ i (s' : Shared) v (Q' : Unit → Shared → Prop) (E : Value → Shared → Prop), St i s'.heap → Q' () s' → wpAny (model prog w) A (letOwnedTupleGo target (.ref I) v) Q' E s') :
    Steps prog w A target I fp wr n (fun i v _ => P i v) St where
  sub := W.sub
  frame := W.frame
  item := fun i s Q E hi st hQ => W.item i s _ E hi st fun v h' tk hP hst hk => hgo (i + 1) _ v _ _ hst (hQ v h' tk hP hst hk)
  done := W.done
theorem Steps.ofU {elts : List PySem.Expr} {k : Nat} {pos : Pos} {Pt : Nat → Array Value → Prop} {St : Nat → Heap → Prop} {Mid : Nat → Addr → Heap → Prop} (W : WalksU prog w A I fp wr n Pt St Mid) :
    Steps prog w A (.Tuple elts k pos) I fp wr n (fun i v h => ∃ T vals, v = .ref T ∧ Pt i vals ∧ h.IsTuple T vals) St where
  sub := W.sub
  frame := W.frame
  item := fun i s Q E hi st hQ => W.item i s _ E hi st fun T vals h' tk hP hT hm hk => W.go elts k pos i T _ _ _ hm fun h'' hst hk' => by
    refine hQ (.ref T) h'' tk ⟨T, vals, rfl, hP, ?_⟩ hst fun b o hb e => hk' b o hb (hk b o hb e)
    obtain ⟨o, ho, r⟩ := hT
    exact ⟨o, hk' _ _ (W.apart _ _ _ hm) ho, r⟩
  done := W.done
end
noncomputable def LEnd {σ : Type} (h₀ : Heap) (L : Addr) (Led : σ → List (Addr × Obj)) (ps : σ → List (Str × Value)) (stored : List Str) (m₀ : Str → Option Value) (P : List (Addr × Obj) → σ → Prop) (S own : List (Addr × Obj)) (c : σ) (s s' : Shared) : Prop :=
  ∃ h' tk' m' c' add nx, s' = { s with heap := h', toks := tk' } ∧ Fr h₀ L h' m' ∧ News h₀ L h' nx ∧ (∀ p ∈ Led c' ++ (S ++ add), p ∈ nx) ∧ (∀ p ∈ own, p ∈ nx) ∧ (∀ q ∈ Led c ++ (S ++ own), ∀ p ∈ add, q.1 < p.1) ∧
    (∀ p ∈ ps c', m' p.1 = some p.2) ∧ (∀ z, (∀ p ∈ ps c', z ≠ p.1) → stored.contains z = false → m' z = m₀ z) ∧ P (S ++ add) c'
noncomputable def LPost {σ : Type} (h₀ : Heap) (L : Addr) (Led : σ → List (Addr × Obj)) (ps : σ → List (Str × Value)) (stored : List Str) (m₀ : Str → Option Value) (P : List (Addr × Obj) → σ → Prop) (S own : List (Addr × Obj)) (c : σ) (s : Shared) (Q : Flow → Shared → Prop) (f : Flow) (s' : Shared) : Prop :=
  match f with
  | .ret v => Q (.ret v) s'
  | .brk => Q .next s'
  | _ => LEnd h₀ L Led ps stored m₀ P S own c s s'
noncomputable abbrev frm {σ : Type} (ps : σ → List (Str × Value)) (stored : List Str) (m₀ u : Str → Option Value) (c : σ) : Str → Option Value := kstB (fun z => if stored.contains z then u z else m₀ z) (ps c)
theorem frm_of {σ : Type} {ps : σ → List (Str × Value)} {stored : List Str} {m₀ m₁ : Str → Option Value} {c : σ} (h1 : ∀ p ∈ ps c, m₁ p.1 = some p.2) (h2 : ∀ z, (∀ p ∈ ps c, z ≠ p.1) → stored.contains z = false → m₁ z = m₀ z) : frm ps stored m₀ m₁ c = m₁ := by
  funext z
  refine kstB_eq h1 fun hn => ?_
  show (if stored.contains z = true then m₁ z else m₀ z) = m₁ z
  cases h3 : stored.contains z with
  | true => simp
  | false => simp only [Bool.false_eq_true, if_false]; exact (h2 z hn h3).symm
section
variable {prog : Program} {w : World} {A : Around} {s : Shared} {env : Env} {h₀ : Heap} {E : Value → Shared → Prop} {Q : Flow → Shared → Prop}
variable {σ : Type} {target : PySem.Expr} {body : List Stmt} {I : Addr} {fp wr : List Addr} {n : Nat} {It : Nat → Value → Heap → Prop} {St : Nat → Heap → Prop} {m₀ : Str → Option Value}
theorem led_loop {R : Result → Shared → Prop} (Led : σ → List (Addr × Obj)) (cst : List (Addr × Obj)) (ps : σ → List (Str × Value)) (stored : List Str) (adr : List Addr) (P : Nat → List (Addr × Obj) → σ → Prop) (c₀ : σ)
    (W : Steps prog w A target I fp wr n It St) (hLf : env.locals ∉ fp) (hst : St 0 s.heap) (F : Fr h₀ env.locals s.heap m₀) (N : News h₀ env.locals s.heap (Led c₀ ++ cst))
    (hadr : ∀ c, (Led c).map (·.1) = adr) (hdis : ∀ p ∈ cst, ∀ a ∈ adr, p.1 ≠ a)
    (hwr : ∀ b ∈ wr, h₀.get? b = none ∧ (∀ q ∈ Led c₀ ++ cst, q.1 < b)) (hfix : ∀ b ∈ fp, b ∉ wr → (∃ o, (b, o) ∈ cst) ∨ ∃ o, h₀.get? b = some o)
    (hob : ∀ i h, St i h → ∀ b ∈ wr, ∃ o, h.get? b = some o)
    (hk : ∀ p ∈ ps c₀, m₀ p.1 = some p.2) (hP : P 0 cst c₀)
    (turn : ∀ i v c S u h tk own, i < n → It i v h → P i S c → (∀ p ∈ cst, p ∈ S) → (∀ p ∈ S ++ own, ∀ a ∈ adr, p.1 ≠ a) →
      Fr h₀ env.locals h (frm ps stored m₀ u c) → News h₀ env.locals h (Led c ++ (S ++ own)) →
      wpAny (model prog w) A (assign target env v) (fun _ s₃ => wpAny (model prog w) A (execs body env) (LPost h₀ env.locals Led ps stored m₀ (P (i + 1)) S own c { s with heap := h, toks := tk } (fun f s' => R (.ok f) s'))
        (notedBy (model prog w) A env fun e s' => R (.error e) s') s₃) (notedBy (model prog w) A env fun e s' => R (.error e) s') { s with heap := h, toks := tk })
    (done : ∀ c tl u h tk, P n (cst ++ tl) c → (∀ q ∈ Led c ++ cst, ∀ p ∈ tl, q.1 < p.1) → Fr h₀ env.locals h (frm ps stored m₀ u c) → News h₀ env.locals h (Led c ++ (cst ++ tl)) → R (.ok .next) { s with heap := h, toks := tk }) :
    codeAny (model prog w) A (.forLoop target (.ref I) body [] env) R s := by
  have hLw : env.locals ∉ wr := fun h => hLf (W.sub _ h)
  have old : ∀ b o, h₀.get? b = some o → b ∉ wr := fun b o e hb => by rw [(hwr b hb).1] at e; cases e
  have adr0 : ∀ c, ∀ q ∈ Led c, q.1 ∈ adr := fun c q hq => hadr c ▸ List.mem_map.mpr ⟨q, hq, rfl⟩
  have adrIn : ∀ c, ∀ a ∈ adr, ∃ q ∈ Led c, q.1 = a := fun c a ha => by rw [← hadr c] at ha; obtain ⟨q, hq, e⟩ := List.mem_map.mp ha; exact ⟨q, hq, e⟩
  refine codeAny_forLoop_any
    (fun k s' => ∃ h' tk m' c tl i, s' = { s with heap := h', toks := tk } ∧ St i h' ∧ Fr h₀ env.locals h' m' ∧ News h₀ env.locals h' (Led c ++ (cst ++ tl)) ∧ (∀ q ∈ Led c ++ cst, ∀ p ∈ tl, q.1 < p.1) ∧ (∀ p ∈ tl, p.1 ∉ wr) ∧
      (∀ p ∈ ps c, m' p.1 = some p.2) ∧ (∀ z, (∀ p ∈ ps c, z ≠ p.1) → stored.contains z = false → m' z = m₀ z) ∧ P i (cst ++ tl) c ∧ i ≤ n ∧ k = n + 1 - i) ?_ (n + 1)
    ⟨s.heap, s.toks, m₀, c₀, [], 0, rfl, hst, F, by simpa using N, (fun _ _ _ hp => nomatch hp), (fun _ hp => nomatch hp), hk, fun _ _ _ => rfl, by simpa using hP, Nat.zero_le _, rfl⟩
  rintro k s' ⟨h', tk, m', c, tl, i, rfl, hst', F', N', hab, htw, hps, hrest, hPi, hi, rfl⟩
  have offwr : ∀ p ∈ Led c ++ (cst ++ tl), p.1 ∉ wr := by
    intro p hp hb
    rcases List.mem_append.mp hp with hp | hp
    · obtain ⟨q, hq, e⟩ := adrIn c₀ p.1 (adr0 c p hp)
      exact Nat.lt_irrefl _ (e ▸ (hwr _ hb).2 q (List.mem_append_left _ hq))
    · rcases List.mem_append.mp hp with hp | hp
      · exact Nat.lt_irrefl _ ((hwr _ hb).2 p (List.mem_append_right _ hp))
      · exact htw p hp hb
  have next : ∀ h₁ : Heap, (∀ b o, b ∉ wr → h'.get? b = some o → h₁.get? b = some o) → Fr h₀ env.locals h₁ m' ∧ News h₀ env.locals h₁ (Led c ++ (cst ++ tl)) := fun h₁ hk₁ =>
    ⟨⟨F'.ns.at' fun o e => hk₁ _ o hLw e, fun b o e => hk₁ b o (old b o e) (F'.keep b o e), F'.above⟩, fun p hp => ⟨hk₁ _ _ (offwr p hp) (N' p hp).1, (N' p hp).2⟩⟩
  by_cases hlt : i < n
  · have key := W.item i { s with heap := h', toks := tk } (fun v s₁' => wpAny (model prog w) A (assign target env v) (fun _ s₂ => wpAny (model prog w) A (execs body env) (fun f s₃ => match f with
            | .next | .cont => ∃ m, m < n + 1 - i ∧ ∃ h' tk m' c tl i, s₃ = { s with heap := h', toks := tk } ∧ St i h' ∧ Fr h₀ env.locals h' m' ∧ News h₀ env.locals h' (Led c ++ (cst ++ tl)) ∧ (∀ q ∈ Led c ++ cst, ∀ p ∈ tl, q.1 < p.1) ∧ (∀ p ∈ tl, p.1 ∉ wr) ∧
                (∀ p ∈ ps c, m' p.1 = some p.2) ∧ (∀ z, (∀ p ∈ ps c, z ≠ p.1) → stored.contains z = false → m' z = m₀ z) ∧ P i (cst ++ tl) c ∧ i ≤ n ∧ m = n + 1 - i
            | .brk => R (.ok .next) s₃
            | .ret v => R (.ok (.ret v)) s₃) (notedBy (model prog w) A env fun e s' => R (.error e) s') s₂) (notedBy (model prog w) A env fun e s' => R (.error e) s') s₁')
      (notedBy (model prog w) A env fun e s' => R (.error e) s') hlt hst' fun v h₁ tk₁ hPv hst₁ hk₁ => ?_
    · exact wpAny_mono key (fun r s₁ hr => by cases r with | none => exact hr.elim | some v => exact hr) fun _ _ e => e
    · obtain ⟨F₁, N₁⟩ := next h₁ hk₁
      have Nown : News h₀ env.locals h₁ (ownOf h₀ wr h₁) := news_ownOf hLw
      have hoff : ∀ p ∈ (cst ++ tl) ++ ownOf h₀ wr h₁, ∀ a ∈ adr, p.1 ≠ a := by
        intro p hp a ha e
        obtain ⟨q, hq, eq⟩ := adrIn c a ha
        rcases List.mem_append.mp hp with hp | hp
        · rcases List.mem_append.mp hp with hp | hp
          · exact hdis p hp a ha e
          · exact Nat.lt_irrefl _ (by have := hab q (List.mem_append_left _ hq) p hp; rw [eq, ← e] at this; exact this)
        · exact offwr q (List.mem_append_left _ hq) (by rw [eq, ← e]; exact ownOf_sub p hp)
      have fr : Fr h₀ env.locals h₁ (frm ps stored m₀ m' c) := by rw [frm_of hps hrest]; exact F₁
      refine wpAny_mono (turn i v c (cst ++ tl) m' h₁ tk₁ (ownOf h₀ wr h₁) hlt hPv hPi (fun p hp => List.mem_append_left _ hp) hoff fr (fun p hp => ?_))
        (fun _ s₂ h₂ => wpAny_mono h₂ (fun f s₃ h₃ => ?_) fun _ _ e => e) fun _ _ e => e
      · rcases List.mem_append.mp hp with hp | hp
        · exact N₁ p (List.mem_append_left _ hp)
        · rcases List.mem_append.mp hp with hp | hp
          · exact N₁ p (List.mem_append_right _ hp)
          · exact Nown p hp
      · have fin : LEnd h₀ env.locals Led ps stored m₀ (P (i + 1)) (cst ++ tl) (ownOf h₀ wr h₁) c { s with heap := h₁, toks := tk₁ } s₃ → ∃ m, m < n + 1 - i ∧ ∃ h' tk m' c tl i, s₃ = { s with heap := h', toks := tk } ∧ St i h' ∧ Fr h₀ env.locals h' m' ∧ News h₀ env.locals h' (Led c ++ (cst ++ tl)) ∧ (∀ q ∈ Led c ++ cst, ∀ p ∈ tl, q.1 < p.1) ∧ (∀ p ∈ tl, p.1 ∉ wr) ∧
                (∀ p ∈ ps c, m' p.1 = some p.2) ∧ (∀ z, (∀ p ∈ ps c, z ≠ p.1) → stored.contains z = false → m' z = m₀ z) ∧ P i (cst ++ tl) c ∧ i ≤ n ∧ m = n + 1 - i := by
          rintro ⟨h₂', tk₂, m₂, c₂, add, nx, rfl, F₂, N₂, hin, hown, habv, hps₂, hrest₂, hP₂⟩
          refine ⟨n + 1 - (i + 1), by omega, h₂', tk₂, m₂, c₂, tl ++ add, i + 1, rfl, ?_, F₂, fun p hp => N₂ p (hin p (by simpa [List.append_assoc] using hp)), ?_, ?_, hps₂, hrest₂, by rw [← List.append_assoc]; exact hP₂, hlt, rfl⟩
          · refine W.frame _ _ _ hst₁ fun b hb o e => ?_
            by_cases hbw : b ∈ wr
            · exact (N₂ _ (hown _ (mem_ownOf hbw (hwr b hbw).1 e))).1
            · rcases hfix b hb hbw with ⟨o', ho'⟩ | ⟨o', ho'⟩
              · have e1 := (N₁ _ (List.mem_append_right _ (List.mem_append_left _ ho'))).1
                have e2 : o' = o := by rw [e] at e1; exact (Option.some.inj e1).symm
                have e3 := (N₂ _ (hin (b, o') (List.mem_append_right _ (List.mem_append_left _ (List.mem_append_left _ ho'))))).1
                rw [← e2]; exact e3
              · have e1 := F₁.keep b o' ho'
                have e2 : o' = o := by rw [e] at e1; exact (Option.some.inj e1).symm
                rw [← e2]; exact F₂.keep b o' ho'
          · intro q hq p hp
            have hq' : ∃ q' ∈ Led c ++ cst, q'.1 = q.1 := by
              rcases List.mem_append.mp hq with hq | hq
              · obtain ⟨q', h1, h2⟩ := adrIn c q.1 (adr0 c₂ q hq)
                exact ⟨q', List.mem_append_left _ h1, h2⟩
              · exact ⟨q, List.mem_append_right _ hq, rfl⟩
            obtain ⟨q', hq', eq⟩ := hq'
            rw [← eq]
            rcases List.mem_append.mp hp with hp | hp
            · exact hab q' hq' p hp
            · refine habv q' ?_ p hp
              rcases List.mem_append.mp hq' with h | h
              · exact List.mem_append_left _ h
              · exact List.mem_append_right _ (List.mem_append_left _ (List.mem_append_left _ h))
          · intro p hp hb
            rcases List.mem_append.mp hp with hp | hp
            · exact htw p hp hb
            · obtain ⟨o, ho⟩ := hob _ _ hst₁ p.1 hb
              exact Nat.lt_irrefl _ (habv (p.1, o) (List.mem_append_right _ (List.mem_append_right _ (mem_ownOf hb (hwr _ hb).1 ho))) p hp)
        cases f with
        | next => exact fin h₃
        | cont => exact fin h₃
        | brk => exact h₃
        | ret v => exact h₃
  · have hin : i = n := by omega
    subst hin
    refine W.done _ _ _ hst' fun h₁ tk₁ hk₁ => wpAny_execs_nil ?_
    obtain ⟨F₁, N₁⟩ := next h₁ hk₁
    refine done c tl m' h₁ tk₁ hPi hab ?_ N₁
    rw [frm_of hps hrest]; exact F₁
end
end
section
theorem Tel.use {f : Addr} {dd uu : Nat} {vs : List Value} {Pre : List (Addr × Obj) → Prop} {Out : List (Addr × Obj) → Value → Prop} (C : Tel f dd uu vs Pre Out)
    {prog : Program} {w : World} {p : Program} {loose : List Str} {mean : ExcName → Option Value} {mg mb : Str → Option Value} {dp un : Nat} {gd : Option (List Code)} {cn : Str} {cs : Scope} {a : Addr} {ccd : Value} {cl : List (Str × Addr)} {outer : List Env} {A₀ : Around} {base h₀ : Heap} {L : Addr} {m : Str → Option Value} {news : List (Addr × Obj)} {s : Shared}
    {Q E : Value → Shared → Prop} (B : Below A₀ base outer h₀) (F : Fr h₀ L s.heap m) (X : (hK w.params).In h₀) (N : News h₀ L s.heap news) (T : Top p loose mean mg mb h₀) (hk : cs.kind = .function) (R : Pre news)
    (hd : dp + dd < recursionLimit) (hu : un + uu < cLine)
    (ret : ∀ r tl h' tk', Fr h₀ L h' m → News h₀ L h' (news ++ tl) → (∀ q ∈ news, ∀ p ∈ tl, q.1 < p.1) → Out (news ++ tl) r → Q r { s with heap := h', toks := tk' }) :
    wpAny (model prog w) (ktrTop dp un gd cn cs L a ccd cl outer) (call (.ref f) vs) Q E s := by refine C _ _ _ _ _ _ _ _ _ _ _ _ _ _ _ _ _ _ _ _ _ _ _ _ _ B F X N T hk R hd hu ret
/-- a contract of a def that changes the object at b alone -/
noncomputable def TelM (f : Addr) (dd uu : Nat) (vs : List Value) (b : Addr) (o : Obj) (Pre : List (Addr × Obj) → Prop) (Out : Obj → List (Addr × Obj) → Value → Prop) : Prop :=
  ∀ (prog : Program) (w : World) (p : Program) (loose : List Str) (mean : ExcName → Option Value) (mg mb : Str → Option Value)
    (dp un : Nat) (gd : Option (List Code)) (cn : Str) (cs : Scope) (a : Addr) (ccd : Value) (cl : List (Str × Addr)) (outer : List Env) (A₀ : Around) (base h₀ : Heap) (L : Addr) (m : Str → Option Value) (news : List (Addr × Obj)) (s : Shared)
    (Q E : Value → Shared → Prop),
    Below A₀ base outer h₀ → Fr h₀ L s.heap m → (hK w.params).In h₀ → News h₀ L s.heap ((b, o) :: news) → (∀ p ∈ news, p.1 ≠ b) → Top p loose mean mg mb h₀ → cs.kind = .function → Pre news → dp + dd < recursionLimit → un + uu < cLine →
    (∀ r o' tl h' tk', Fr h₀ L h' m → News h₀ L h' ((b, o') :: (news ++ tl)) → (∀ p ∈ tl, b < p.1) → (∀ q ∈ news, ∀ p ∈ tl, q.1 < p.1) → Out o' (news ++ tl) r → Q r { s with heap := h', toks := tk' }) →
    wpAny (model prog w) (ktrTop dp un gd cn cs L a ccd cl outer) (call (.ref f) vs) Q E s
/-- the head of a for, its iterable reckoned -/
noncomputable def ForAt (prog : Program) (w : World) (A : Around) (env : Env) (target : PySem.Expr) (body : List Stmt) (Q : Flow → Shared → Prop) (E : Value → Shared → Prop) (it : Value) (s : Shared) : Prop :=
  codeAny (model prog w) A (.forLoop target it body [] env) (fun r s' => match r with | .ok f => Q f s' | .error e => cameBackBy (model prog w) A env E e s') s
noncomputable def IterAt (prog : Program) (w : World) (A : Around) (env : Env) (target : PySem.Expr) (body : List Stmt) (Q : Flow → Shared → Prop) (E : Value → Shared → Prop) (xv : Value) (s : Shared) : Prop :=
  wpAny (model prog w) A (pyIter xv) (ForAt prog w A env target body Q E) E s
theorem For_at {prog : Program} {w : World} {A : Around} {s : Shared} {env : Env} {E : Value → Shared → Prop} {Q : Flow → Shared → Prop} {target iter : PySem.Expr} {pos : Pos} {body : List Stmt}
    (h : wpAny (model prog w) A (eval iter env) (IterAt prog w A env target body Q E) E s) (hs : ∀ x, foldedSetIterable iter env x = pure x := by intro _; rfl) :
    wpAny (model prog w) A (exec (.For target iter body [] pos) env) Q E s := wpAny_For h hs
/-- two lists, item by item -/
inductive All2 {α β : Type} (R : α → β → Prop) : List α → List β → Prop
  | nil : All2 R [] []
  | cons {a : α} {b : β} {as : List α} {bs : List β} : R a b → All2 R as bs → All2 R (a :: as) (b :: bs)
namespace All2
variable {α β : Type} {R R' : α → β → Prop}
theorem mono (h : ∀ a b, R a b → R' a b) {as : List α} {bs : List β} (x : All2 R as bs) : All2 R' as bs := by
  induction x with
  | nil => exact .nil
  | cons r _ ih => exact .cons (h _ _ r) ih
theorem length {as : List α} {bs : List β} (x : All2 R as bs) : as.length = bs.length := by
  induction x with
  | nil => rfl
  | cons _ _ ih => simp [ih]
theorem append {as as' : List α} {bs bs' : List β} (x : All2 R as bs) (y : All2 R as' bs') : All2 R (as ++ as') (bs ++ bs') := by
  induction x with
  | nil => exact y
  | cons r _ ih => exact .cons r ih
theorem get {as : List α} {bs : List β} (x : All2 R as bs) {i : Nat} {a : α} (h : as[i]? = some a) : ∃ b, bs[i]? = some b ∧ R a b := by
  induction x generalizing i with
  | nil => simp at h
  | cons r _ ih =>
    cases i with
    | zero => simp at h; subst h; exact ⟨_, rfl, r⟩
    | succ i => simpa using ih (by simpa using h)
theorem get' {as : List α} {bs : List β} (x : All2 R as bs) {i : Nat} {b : β} (h : bs[i]? = some b) : ∃ a, as[i]? = some a ∧ R a b := by
  induction x generalizing i with
  | nil => simp at h
  | cons r _ ih =>
    cases i with
    | zero => simp at h; subst h; exact ⟨_, rfl, r⟩
    | succ i => simpa using ih (by simpa using h)
end All2
theorem nwX {h₀ h : Heap} {L : Addr} {nx all : List (Addr × Obj)} (N : News h₀ L h nx) (hs : ∀ p ∈ all, p ∈ nx) : News h₀ L h all := fun p hp => N p (hs p hp)
theorem nw0 {h₀ h : Heap} {L : Addr} {nx all : List (Addr × Obj)} (N : News h₀ L h nx) (hs : ∀ p ∈ all, p ∈ nx) : News h₀ L h (all ++ []) := by rw [List.append_nil]; exact nwX N hs
theorem ne_of_ab {d : Addr} {l : List (Addr × Obj)} (h : ∀ p ∈ l, d < p.1) : ∀ p ∈ l, p.1 ≠ d := fun p hp => Nat.ne_of_gt (h p hp)
theorem ne_of_bel {d : Addr} {l : List (Addr × Obj)} (h : ∀ p ∈ l, p.1 < d) : ∀ p ∈ l, p.1 ≠ d := fun p hp => Nat.ne_of_lt (h p hp)
theorem allb_cons {d : Addr} {q : Addr × Obj} {l : List (Addr × Obj)} : (∀ p ∈ q :: l, p.1 < d) ↔ (@LT.lt Nat _ q.1 d ∧ ∀ p ∈ l, p.1 < d) := List.forall_mem_cons
/-- a side, as the ledger bears it -/
structure SD where
  x1 : Int
  y1 : Int
  x2 : Int
  y2 : Int
  way : Int
noncomputable abbrev sideDict (sd : SD) (g1 g2 g3 g4 g5 : Int) (k1 k2 k3 k4 k5 t1 t2 t3 t4 t5 : Nat) : Obj :=
  dictOf [⟨g1, .str "x1" k1, .int sd.x1 t1⟩, ⟨g2, .str "y1" k2, .int sd.y1 t2⟩, ⟨g3, .str "x2" k3, .int sd.x2 t3⟩, ⟨g4, .str "y2" k4, .int sd.y2 t4⟩, ⟨g5, .str "way" k5, .int sd.way t5⟩] 5
noncomputable def SideIn (news : List (Addr × Obj)) (v : Value) (sd : SD) : Prop :=
  ∃ x d g1 g2 g3 g4 g5 k1 k2 k3 k4 k5 t1 t2 t3 t4 t5, v = .ref x ∧ (x, instObj 169 d) ∈ news ∧ (d, sideDict sd g1 g2 g3 g4 g5 k1 k2 k3 k4 k5 t1 t2 t3 t4 t5) ∈ news
theorem SideIn.mono {news news' : List (Addr × Obj)} {v : Value} {sd : SD} (h : SideIn news v sd) (hs : ∀ p ∈ news, p ∈ news') : SideIn news' v sd := by
  obtain ⟨x, d, g1, g2, g3, g4, g5, k1, k2, k3, k4, k5, t1, t2, t3, t4, t5, e, m1, m2⟩ := h
  exact ⟨x, d, g1, g2, g3, g4, g5, k1, k2, k3, k4, k5, t1, t2, t3, t4, t5, e, hs _ m1, hs _ m2⟩
noncomputable abbrev spD (c : Int × Int) : Dat := .tuple [.int c.1, .int c.2]
theorem sp_inv {news : List (Addr × Obj)} {v : Value} {c : Int × Int} (h : DatIn news v (spD c)) :
    ∃ a n t1 t2, v = .ref a ∧ (a, tupOf [.int c.1 t1, .int c.2 t2] n) ∈ news := by
  obtain ⟨a, n, v1, v2, rfl, hm, h1, h2⟩ := two_inv h
  obtain ⟨t1, rfl⟩ := int_inv h1
  obtain ⟨t2, rfl⟩ := int_inv h2
  exact ⟨a, n, t1, t2, rfl, hm⟩
theorem dat_of {news : List (Addr × Obj)} {α : Type} {f : α → Dat} {vs : List Value} {cs : List α} (hd : DatAll news vs (cs.map f)) {i : Nat} {v : Value} (hv : vs[i]? = some v) : ∃ c, cs[i]? = some c ∧ DatIn news v (f c) := by
  have hl : i < cs.length := by
    have := (List.getElem?_eq_some_iff.mp hv).1
    rw [DatAll.length hd, List.length_map] at this
    exact this
  obtain ⟨v', hv', hI⟩ := DatAll.get hd (k := i) (by simpa using hl)
  rw [hv] at hv'
  have := Option.some.inj hv'
  subst this
  exact ⟨cs[i], List.getElem?_eq_getElem hl, by simpa using hI⟩
theorem dat_at {news : List (Addr × Obj)} {α : Type} {f : α → Dat} {vs : List Value} {cs : List α} (hd : DatAll news vs (cs.map f)) {i : Nat} {c : α} (hc : cs[i]? = some c) : ∃ v, vs[i]? = some v ∧ DatIn news v (f c) := by
  obtain ⟨hl, rfl⟩ := List.getElem?_eq_some_iff.mp hc
  obtain ⟨v', hv', hI⟩ := DatAll.get hd (k := i) (by simpa using hl)
  exact ⟨v', hv', by simpa using hI⟩
section
variable {prog : Program} {w : World} {A : Around} {E : Value → Shared → Prop} {s : Shared} {h₀ : Heap} {L : Addr} {news : List (Addr × Obj)}
theorem len_led {l : Addr} {vs : List Value} {nn : Nat} {Q : Value → Shared → Prop} (N : News h₀ L s.heap news) (hl : (l, listOf vs.toArray nn) ∈ news) (hf : vs.length < 1000000) (h : Q (.int (vs.length : Nat) (s.toks + 1)) { s with toks := s.toks + 1 + 1 }) :
    wpAny (model prog w) A (call (.builtin "len") [.ref l]) Q E s := by
  have hz : vs.toArray.size = vs.length := by simp
  refine len_list (items := vs.toArray) ⟨_, (N _ hl).1, rfl, nn, rfl⟩ (by omega) ?_
  rw [hz]; exact h
theorem item_led {value slice : PySem.Expr} {l : Addr} {vs : List Value} {nn : Nat} {k : Int} {u : Tok} {v : Value} {Q : Value → Shared → Prop} (N : News h₀ L s.heap news) (hl : (l, listOf vs.toArray nn) ∈ news) (h0 : 0 ≤ k) (hhi : k < 2 ^ 63) (hx : vs[k.toNat]? = some v) (h : Q v s)
    (hs : subscripted slice false (.ref l) (.int k u) = operate [.ref l, .int k u] (getItem (.ref l) (.int k u))) :
    wpAny (model prog w) A (subscriptTail value slice (.ref l) (.int k u)) Q E s :=
  have hL : s.heap.IsList l vs.toArray := ⟨_, (N _ hl).1, rfl, nn, rfl⟩
  tail_any hL.typeIs slot_list_getitem.lookup (wpAny_getItem_list hL h0 hhi (by simpa using hx) h) hs
theorem item_ledT {value slice : PySem.Expr} {l : Addr} {vs : List Value} {nn : Nat} {k : Int} {u : Tok} {v : Value} {Q : Value → Shared → Prop} (N : News h₀ L s.heap news) (hl : (l, tupOf vs nn) ∈ news) (h0 : 0 ≤ k) (hhi : k < 2 ^ 63) (hx : vs[k.toNat]? = some v) (h : Q v s)
    (hs : subscripted slice false (.ref l) (.int k u) = operate [.ref l, .int k u] (getItem (.ref l) (.int k u))) :
    wpAny (model prog w) A (subscriptTail value slice (.ref l) (.int k u)) Q E s := by
  have hlt := (List.getElem?_eq_some_iff.mp hx).1
  exact item_tupleT (l := vs) (j := k.toNat) ⟨_, (N _ hl).1, rfl, nn, rfl⟩ (by omega) hhi (by unfold seqIndex?; simp; omega) hx h hs
end
/-- where it stands in the context the walk stops at the next if -/
noncomputable def StopIf : Prop := True
noncomputable def StopAt (P : Prop) : Prop := P
theorem stopHere {P : Prop} (h : StopAt P) : P := h
theorem StopAt.go {P : Prop} (h : P) : StopAt P := h
/-- a contract whose end tells what was made apart -/
noncomputable def Tel2 (f : Addr) (dd uu : Nat) (vs : List Value) (Pre : List (Addr × Obj) → Prop) (Out : List (Addr × Obj) → List (Addr × Obj) → Value → Prop) : Prop :=
  ∀ (prog : Program) (w : World) (p : Program) (loose : List Str) (mean : ExcName → Option Value) (mg mb : Str → Option Value)
    (dp un : Nat) (gd : Option (List Code)) (cn : Str) (cs : Scope) (a : Addr) (ccd : Value) (cl : List (Str × Addr)) (outer : List Env) (A₀ : Around) (base h₀ : Heap) (L : Addr) (m : Str → Option Value) (news : List (Addr × Obj)) (s : Shared)
    (Q E : Value → Shared → Prop),
    Below A₀ base outer h₀ → Fr h₀ L s.heap m → (hK w.params).In h₀ → News h₀ L s.heap news → Top p loose mean mg mb h₀ → cs.kind = .function → Pre news → dp + dd < recursionLimit → un + uu < cLine →
    (∀ r tl h' tk', Fr h₀ L h' m → News h₀ L h' (news ++ tl) → (∀ q ∈ news, ∀ p ∈ tl, q.1 < p.1) → Out news tl r → Q r { s with heap := h', toks := tk' }) →
    wpAny (model prog w) (ktrTop dp un gd cn cs L a ccd cl outer) (call (.ref f) vs) Q E s
theorem Tel2.toTel {f : Addr} {dd uu : Nat} {vs : List Value} {Pre : List (Addr × Obj) → Prop} {Out : List (Addr × Obj) → List (Addr × Obj) → Value → Prop} {Out' : List (Addr × Obj) → Value → Prop} (C : Tel2 f dd uu vs Pre Out) (h : ∀ n t r, Out n t r → Out' (n ++ t) r) : Tel f dd uu vs Pre Out' := by
  intro prog w p loose mean mg mb dp un gd cn cs a ccd cl outer A₀ base h₀ L m news s Q E B F X N T hk hP hd hu hret
  exact C prog w p loose mean mg mb dp un gd cn cs a ccd cl outer A₀ base h₀ L m news s Q E B F X N T hk hP hd hu fun r tl h' tk' a b c d => hret r tl h' tk' a b c (h _ _ _ d)
theorem Tel2.use {f : Addr} {dd uu : Nat} {vs : List Value} {Pre : List (Addr × Obj) → Prop} {Out : List (Addr × Obj) → List (Addr × Obj) → Value → Prop} (C : Tel2 f dd uu vs Pre Out)
    {prog : Program} {w : World} {p : Program} {loose : List Str} {mean : ExcName → Option Value} {mg mb : Str → Option Value} {dp un : Nat} {gd : Option (List Code)} {cn : Str} {cs : Scope} {a : Addr} {ccd : Value} {cl : List (Str × Addr)} {outer : List Env} {A₀ : Around} {base h₀ : Heap} {L : Addr} {m : Str → Option Value} {news : List (Addr × Obj)} {s : Shared}
    {Q E : Value → Shared → Prop} (B : Below A₀ base outer h₀) (F : Fr h₀ L s.heap m) (X : (hK w.params).In h₀) (N : News h₀ L s.heap news) (T : Top p loose mean mg mb h₀) (hk : cs.kind = .function) (R : Pre news)
    (hd : dp + dd < recursionLimit) (hu : un + uu < cLine)
    (ret : ∀ r tl h' tk', Fr h₀ L h' m → News h₀ L h' (news ++ tl) → (∀ q ∈ news, ∀ p ∈ tl, q.1 < p.1) → Out news tl r → Q r { s with heap := h', toks := tk' }) :
    wpAny (model prog w) (ktrTop dp un gd cn cs L a ccd cl outer) (call (.ref f) vs) Q E s := by
  exact C prog w p loose mean mg mb dp un gd cn cs a ccd cl outer A₀ base h₀ L m news s Q E B F X N T hk R hd hu ret
/-- the same, the contract behind what it asks -/
theorem Tel.useR {f : Addr} {dd uu : Nat} {vs : List Value} {Pre : List (Addr × Obj) → Prop} {Out : List (Addr × Obj) → Value → Prop}
    {prog : Program} {w : World} {p : Program} {loose : List Str} {mean : ExcName → Option Value} {mg mb : Str → Option Value} {dp un : Nat} {gd : Option (List Code)} {cn : Str} {cs : Scope} {a : Addr} {ccd : Value} {cl : List (Str × Addr)} {outer : List Env} {A₀ : Around} {base h₀ : Heap} {L : Addr} {m : Str → Option Value} {news : List (Addr × Obj)} {s : Shared}
    {Q E : Value → Shared → Prop} (B : Below A₀ base outer h₀) (F : Fr h₀ L s.heap m) (X : (hK w.params).In h₀) (N : News h₀ L s.heap news) (T : Top p loose mean mg mb h₀) (hk : cs.kind = .function) (R : Pre news)
    (C : Tel f dd uu vs Pre Out) (hd : dp + dd < recursionLimit) (hu : un + uu < cLine)
    (ret : ∀ r tl h' tk', Fr h₀ L h' m → News h₀ L h' (news ++ tl) → (∀ q ∈ news, ∀ p ∈ tl, q.1 < p.1) → Out (news ++ tl) r → Q r { s with heap := h', toks := tk' }) :
    wpAny (model prog w) (ktrTop dp un gd cn cs L a ccd cl outer) (call (.ref f) vs) Q E s := C.use B F X N T hk R hd hu ret
theorem Tel2.useR {f : Addr} {dd uu : Nat} {vs : List Value} {Pre : List (Addr × Obj) → Prop} {Out : List (Addr × Obj) → List (Addr × Obj) → Value → Prop}
    {prog : Program} {w : World} {p : Program} {loose : List Str} {mean : ExcName → Option Value} {mg mb : Str → Option Value} {dp un : Nat} {gd : Option (List Code)} {cn : Str} {cs : Scope} {a : Addr} {ccd : Value} {cl : List (Str × Addr)} {outer : List Env} {A₀ : Around} {base h₀ : Heap} {L : Addr} {m : Str → Option Value} {news : List (Addr × Obj)} {s : Shared}
    {Q E : Value → Shared → Prop} (B : Below A₀ base outer h₀) (F : Fr h₀ L s.heap m) (X : (hK w.params).In h₀) (N : News h₀ L s.heap news) (T : Top p loose mean mg mb h₀) (hk : cs.kind = .function) (R : Pre news)
    (C : Tel2 f dd uu vs Pre Out) (hd : dp + dd < recursionLimit) (hu : un + uu < cLine)
    (ret : ∀ r tl h' tk', Fr h₀ L h' m → News h₀ L h' (news ++ tl) → (∀ q ∈ news, ∀ p ∈ tl, q.1 < p.1) → Out news tl r → Q r { s with heap := h', toks := tk' }) :
    wpAny (model prog w) (ktrTop dp un gd cn cs L a ccd cl outer) (call (.ref f) vs) Q E s := C.use B F X N T hk R hd hu ret
theorem roomD {d a R b : Nat} (h : d + a < R) (hb : Nat.ble (1 + b) a = true) : d + 1 + b < R := by
  have := Nat.le_of_ble_eq_true hb
  omega
theorem roomU {d a R b : Nat} (h : d + a < R) (hb : Nat.ble (3 + b) a = true) : d + 3 + b < R := by
  have := Nat.le_of_ble_eq_true hb
  omega
theorem roomE {d a R : Nat} (h : d + a < R) : d < R := Nat.lt_of_le_of_lt (Nat.le_add_right _ _) h
end
noncomputable def Fill (_ : OpenLaw) (_ : Params → Frag) : Prop := True
set_option maxHeartbeats 8000000 in
theorem fill : Fill PySem.Challenge.rw_nu0008_01 hK := by k_fill; trivial
local macro_rules | `(tactic| k_room) => `(tactic| ktr_room)
local macro_rules | `(tactic| k_units) => `(tactic| ktr_units)
local macro_rules | `(tactic| ktr_room) => `(tactic| first | decide | exact roomD (by assumption) rfl | exact roomE (by assumption))
local macro_rules | `(tactic| ktr_units) => `(tactic| first | decide | exact roomU (by assumption) rfl)
local macro_rules | `(tactic| k_mem) => `(tactic| first | exact List.mem_cons_self | (refine' List.mem_cons_of_mem _ ?_; k_mem))
local macro_rules | `(tactic| size_fits) => `(tactic| (rw [sizeLine_eq]; (try simp only [List.size_toArray, Array.size_push, List.length_append, List.length_cons, List.length_nil]); omega))
local macro_rules | `(tactic| k_lt $h:ident) => `(tactic| ((try simp only [allb_cons, List.forall_mem_append, List.cons_append, List.nil_append, List.not_mem_nil, false_implies, implies_true, and_true] at $h:ident); (repeat' (obtain ⟨_, $h⟩ := $h))))
local macro_rules | `(tactic| k_all) => `(tactic| ((try simp only [List.forall_mem_cons, List.forall_mem_append, List.cons_append, List.nil_append, List.not_mem_nil, false_implies, implies_true, and_true]); (repeat' (apply And.intro)); all_goals (first | assumption | exact ne_of_ab (by assumption) | exact ne_of_bel (by assumption) | exact Nat.ne_of_gt (by assumption) | exact Nat.ne_of_lt (by assumption) | (refine neN ?_; (try dsimp only); omega))))
local macro_rules | `(tactic| walk_at $s:str) => `(tactic| k_extra $s)
section
set_option maxHeartbeats 1000000
section
variable {prog : Program} {w : World} {A : Around} {E : Value → Shared → Prop} {s : Shared}
theorem nextOf_tup {it t : Addr} {i : Nat} {items : Array Value} {x : Value} {Q : Value → Shared → Prop} (hit : IsTupIter s.heap it t i) (ht : IsTup s.heap t items) (hx : items[i]? = some x)
    (hQ : ∀ h', IsTupIter h' it t (i + 1) → Heap.SameBut it s.heap h' → Q x { s with heap := h' }) : wpAny (model prog w) A (Builtin.SmallTypes.nextOf (.ref it)) Q E s := by
  obtain ⟨o, ho, hc, hd⟩ := id hit
  obtain ⟨ol, hol, _, nl, hdl⟩ := ht
  unfold Builtin.SmallTypes.nextOf
  refine wpAny_bind (wpAny_callSpecial?_slot (name := Str.ofString "__next__") hit.typeIs slot_tupleiter_next
    (wpAny_call_entry slot_tupleiter_next hit.typeIs entry_tupleiter_next ?_ (args_tupleiter_next _)))
  show wpAny _ _ (field (.ref it) 0 >>= _) _ _ s
  refine wpAny_bind (wpAny_field ho hd (x := .ref t) rfl ?_)
  show wpAny _ _ (if (Value.ref t == Value.none) = true then _ else _) _ _ s
  rw [if_neg (show ¬ ((Value.ref t == Value.none) = true) from Bool.false_ne_true)]
  show wpAny _ _ (field (.ref it) 1 >>= _) _ _ s
  refine wpAny_bind (wpAny_field ho hd (x := .int i 0) rfl ?_)
  show wpAny _ _ (seqItems? (.ref t) >>= _) _ _ s
  refine wpAny_bind (wpAny_seqItems hol hdl ?_)
  simp only [Int.toNat_natCast, hx]
  refine wpAny_bind (wpAny_setField ho hd (by simp) (wpAny_pure ⟨x, rfl, wpAny_pure (hQ _ ?_ (Heap.SameBut.update ..))⟩))
  exact ⟨_, Heap.get?_update_self _ ho (Obj.isFreed_of_fields (Obj.data_mapFields hd _)), (Obj.cls_mapFields ..).trans hc, by
    rw [Obj.data_mapFields hd]; simp [rawInt]⟩
theorem nextOf_tup_end {it t : Addr} {i : Nat} {items : Array Value} {Q : Value → Shared → Prop} (hh : A.handled = none) (hit : IsTupIter s.heap it t i) (ht : IsTup s.heap t items) (hx : items[i]? = none)
    (hE : ∀ h' e, Heap.ExtBut it s.heap h' → (∃ o, h'.get? e = some o ∧ o.cls = .type "StopIteration") → E (.ref e) { s with heap := h' }) :
    wpAny (model prog w) A (Builtin.SmallTypes.nextOf (.ref it)) Q E s := by
  obtain ⟨o, ho, hc, hd⟩ := id hit
  obtain ⟨ol, hol, _, nl, hdl⟩ := ht
  unfold Builtin.SmallTypes.nextOf
  refine wpAny_bind (wpAny_callSpecial?_slot (name := Str.ofString "__next__") hit.typeIs slot_tupleiter_next
    (wpAny_call_entry slot_tupleiter_next hit.typeIs entry_tupleiter_next ?_ (args_tupleiter_next _)))
  show wpAny _ _ (field (.ref it) 0 >>= _) _ _ s
  refine wpAny_bind (wpAny_field ho hd (x := .ref t) rfl ?_)
  show wpAny _ _ (if (Value.ref t == Value.none) = true then _ else _) _ _ s
  rw [if_neg (show ¬ ((Value.ref t == Value.none) = true) from Bool.false_ne_true)]
  show wpAny _ _ (field (.ref it) 1 >>= _) _ _ s
  refine wpAny_bind (wpAny_field ho hd (x := .int i 0) rfl ?_)
  show wpAny _ _ (seqItems? (.ref t) >>= _) _ _ s
  refine wpAny_bind (wpAny_seqItems hol hdl ?_)
  simp only [Int.toNat_natCast, hx]
  refine wpAny_bind (wpAny_rule (wpAny_bind (wpAny_setField ho hd (by simp) ?_)))
  show wpAny _ _ (newExc (.type "StopIteration") [] >>= _) _ _ _
  refine wpAny_bind ?_
  simp only [newExc, newTuple]
  refine wpAny_bind (wpAny_newObj_type ?_ (by size_fits))
  refine wpAny_bind (m := firstArgMember _ _) (wpAny_of_eq (a := Value.none) (by first | rfl | (simp only [firstArgMember]; rfl)) ?_)
  refine wpAny_newObj_type ?_ (by size_fits)
  simp only [raiseNew]
  refine wpAny_bind (wpAny_handled ?_)
  first | rw [show A.in1.handled = none from hh] | rw [hh]
  refine wpAny_bind (wpAny_pure (wpAny_throw ?_))
  exact hE _ _ (((Heap.SameBut.update ..).extBut.push _).push _) ⟨_, Heap.get?_push_size _ rfl, rfl⟩
/-- a zip of two, what it has handed out told -/
noncomputable abbrev Zp (h : Heap) (z TI TO : Addr) (f0 f1 : Value) : Prop :=
  h.get? z = some { cls := .type "zip", dict := none, data := .fields #[f0, f1, .bool false, .ref TI, .ref TO], slots := #[] }
theorem owned_busy {z TI TO a : Addr} {f : Bool} {oa : Obj} {Q : Bool → Shared → Prop} (hz : Zp s.heap z TI TO (rawInt a) (.bool f)) (ha : s.heap.get? a = some oa)
    (hQ : ∀ h', Zp h' z TI TO (rawInt a) (.bool true) → Heap.SameBut z s.heap h' → Q false { s with heap := h' }) :
    wpAny (model prog w) A (Builtin.SmallTypes.ownedTupleIsFree (.ref z)) Q E s := by
  unfold Builtin.SmallTypes.ownedTupleIsFree
  refine wpAny_bind (wpAny_field hz rfl (x := rawInt a) rfl ?_)
  show wpAny _ _ (loadIfAlive ((a : Int).toNat) >>= _) _ _ _
  rw [Int.toNat_natCast]
  refine wpAny_bind (kdx_alive ha ?_)
  simp only [Option.isNone_some, Bool.false_eq_true, if_false]
  refine wpAny_bind (wpAny_field hz rfl (x := .bool f) rfl ?_)
  cases f with
  | true =>
    rw [if_neg (show ¬ ((Value.bool true != Value.bool true) = true) from Bool.false_ne_true)]
    exact wpAny_pure (hQ s.heap hz (Heap.SameBut.refl _ _))
  | false =>
    rw [if_pos (show (Value.bool false != Value.bool true) = true from rfl)]
    refine wpAny_bind (wpAny_setField_rec hz (by simp) fun h₃ he₃ hs₃ => ?_)
    exact wpAny_pure (hQ h₃ he₃ hs₃)
theorem zipn_out {z TI TO i1 i2 l1 l2 a : Addr} {f : Bool} {oa : Obj} {k1 k2 : Nat} {xs ys : Array Value} {x y : Value} {Q : Value → Shared → Prop} (D : ZipApart z TI TO i1 i2 l1 l2)
    (hz : Zp s.heap z TI TO (rawInt a) (.bool f)) (ha : s.heap.get? a = some oa) (hTI : IsPair s.heap TI (.ref i1) (.ref i2))
    (h1 : IsTupIter s.heap i1 l1 k1) (h2 : IsTupIter s.heap i2 l2 k2) (hl1 : IsTup s.heap l1 xs) (hl2 : IsTup s.heap l2 ys) (hx : xs[k1]? = some x) (hy : ys[k2]? = some y)
    (hQ : ∀ h', Zp h' z TI TO (rawInt a) (.bool true) → IsTupIter h' i1 l1 (k1 + 1) → IsTupIter h' i2 l2 (k2 + 1) → IsPair h' s.heap.objs.size x y → h'.objs.size = s.heap.objs.size + 1 →
      (∀ c o, c ≠ z → c ≠ i1 → c ≠ i2 → s.heap.get? c = some o → h'.get? c = some o) → Q (.ref s.heap.objs.size) { s with heap := h' }) :
    wpAny (model prog w) A (Builtin.«zip.__next__» ⟨[.ref z], []⟩) (fun fin s' => ∃ v, fin = .done (.ret v) ∧ Q v s') E s := by
  show wpAny _ _ (field (.ref z) 2 >>= _) _ _ _
  refine wpAny_bind (wpAny_field hz rfl (x := .bool false) rfl ?_)
  show wpAny _ _ (field (.ref z) 3 >>= _) _ _ _
  refine wpAny_bind (wpAny_field hz rfl (x := .ref TI) rfl ?_)
  refine wpAny_bind (wpAny_seqItems hTI rfl ?_)
  show wpAny _ _ (Builtin.SmallTypes.ownedTupleIsFree (.ref z) >>= _) _ _ _
  refine wpAny_bind (owned_busy hz ha fun h₁ hz₁ hs₁ => ?_)
  simp only [Bool.false_eq_true, if_false]
  refine wpAny_bind ?_
  simp only [List.forIn_toArray, List.forIn_cons, List.forIn_nil]
  refine wpAny_bind (wpAny_bind (wpAny_holding ?_))
  show wpAny _ _ (Builtin.SmallTypes.nextOf (.ref i1) >>= _) _ _ _
  refine wpAny_bind (nextOf_tup (h1.extBut hs₁.extBut D.i1z) (hl1.extBut hs₁.extBut D.l1z) hx fun h₂ h1₂ hs₂ => wpAny_pure ?_)
  refine wpAny_pure ?_
  refine wpAny_bind (wpAny_bind (wpAny_holding ?_))
  show wpAny _ _ (Builtin.SmallTypes.nextOf (.ref i2) >>= _) _ _ _
  refine wpAny_bind (nextOf_tup ((h2.extBut hs₁.extBut D.i2z).extBut hs₂.extBut D.i12.symm) ((hl2.extBut hs₁.extBut D.l2z).extBut hs₂.extBut D.l2i1) hy fun h₃ h2₃ hs₃ => wpAny_pure ?_)
  refine wpAny_pure (wpAny_pure ?_)
  refine wpAny_bind (wpAny_newTuple ?_ (by simp [sizeLine_eq]))
  refine wpAny_pure ⟨_, rfl, ?_⟩
  have hsz : h₃.objs.size = s.heap.objs.size := by rw [hs₃.1, hs₂.1, hs₁.1]
  have hz₃ : Zp h₃ z TI TO (rawInt a) (.bool true) := hs₃.extBut _ _ D.i2z.symm (hs₂.extBut _ _ D.i1z.symm hz₁)
  have hk₃ : ∀ c o, c ≠ z → c ≠ i1 → c ≠ i2 → s.heap.get? c = some o → h₃.get? c = some o := fun c o c1 c2 c3 e => hs₃.extBut _ _ c3 (hs₂.extBut _ _ c2 (hs₁.extBut _ _ c1 e))
  show Q (.ref h₃.objs.size) _
  rw [hsz]
  have up : ∀ c o, h₃.get? c = some o → (h₃.push { cls := .type "tuple", data := .seq #[x, y] }).get? c = some o := fun c o e => Heap.get?_push_of_some _ e
  refine hQ _ (up _ _ hz₃) ?_ ?_ ?_ (by rw [Heap.size_push, hsz]) fun c o c1 c2 c3 e => up _ _ (hk₃ c o c1 c2 c3 e)
  · obtain ⟨o, ho, r⟩ := h1₂.extBut hs₃.extBut D.i12
    exact ⟨o, up _ _ ho, r⟩
  · obtain ⟨o, ho, r⟩ := h2₃
    exact ⟨o, up _ _ ho, r⟩
  · rw [← hsz]; exact Heap.get?_push_size _ rfl
theorem zipn_end {z TI TO i1 i2 l1 l2 a : Addr} {f : Bool} {oa : Obj} {k1 k2 : Nat} {xs ys : Array Value} {x : Value} {Q : PySem.Fin → Shared → Prop} (hh : A.handled = none) (D : ZipApart z TI TO i1 i2 l1 l2)
    (hz : Zp s.heap z TI TO (rawInt a) (.bool f)) (ha : s.heap.get? a = some oa) (hTI : IsPair s.heap TI (.ref i1) (.ref i2))
    (h1 : IsTupIter s.heap i1 l1 k1) (h2 : IsTupIter s.heap i2 l2 k2) (hl1 : IsTup s.heap l1 xs) (hl2 : IsTup s.heap l2 ys) (hx : xs[k1]? = some x) (hy : ys[k2]? = none)
    (hE : ∀ h' e, (∀ c o, c ≠ z → c ≠ i1 → c ≠ i2 → s.heap.get? c = some o → h'.get? c = some o) → (∃ o, h'.get? e = some o ∧ o.cls = .type "StopIteration") → E (.ref e) { s with heap := h' }) :
    wpAny (model prog w) A (Builtin.«zip.__next__» ⟨[.ref z], []⟩) Q E s := by
  show wpAny _ _ (field (.ref z) 2 >>= _) _ _ _
  refine wpAny_bind (wpAny_field hz rfl (x := .bool false) rfl ?_)
  show wpAny _ _ (field (.ref z) 3 >>= _) _ _ _
  refine wpAny_bind (wpAny_field hz rfl (x := .ref TI) rfl ?_)
  refine wpAny_bind (wpAny_seqItems hTI rfl ?_)
  show wpAny _ _ (Builtin.SmallTypes.ownedTupleIsFree (.ref z) >>= _) _ _ _
  refine wpAny_bind (owned_busy hz ha fun h₁ hz₁ hs₁ => ?_)
  simp only [Bool.false_eq_true, if_false]
  refine wpAny_bind ?_
  simp only [List.forIn_toArray, List.forIn_cons, List.forIn_nil]
  refine wpAny_bind (wpAny_bind (wpAny_holding ?_))
  show wpAny _ _ (Builtin.SmallTypes.nextOf (.ref i1) >>= _) _ _ _
  refine wpAny_bind (nextOf_tup (h1.extBut hs₁.extBut D.i1z) (hl1.extBut hs₁.extBut D.l1z) hx fun h₂ h1₂ hs₂ => wpAny_pure ?_)
  refine wpAny_pure ?_
  refine wpAny_bind (wpAny_bind (wpAny_holding ?_))
  show wpAny _ _ (Builtin.SmallTypes.nextOf (.ref i2) >>= _) _ _ _
  refine wpAny_bind (nextOf_tup_end hh ((h2.extBut hs₁.extBut D.i2z).extBut hs₂.extBut D.i12.symm) ((hl2.extBut hs₁.extBut D.l2z).extBut hs₂.extBut D.l2i1) hy fun h₃ e hs₃ he => ?_)
  exact hE h₃ e (fun c o c1 c2 c3 x => hs₃ _ _ c3 (hs₂.extBut _ _ c2 (hs₁.extBut _ _ c1 x))) he
theorem zipn_first {z TI TO i1 i2 l1 l2 : Addr} {k1 k2 : Nat} {xs ys : Array Value} {x y a b : Value} {Q : Value → Shared → Prop} (D : ZipApart z TI TO i1 i2 l1 l2)
    (hz : IsZip s.heap z TI TO .none) (hTI : IsPair s.heap TI (.ref i1) (.ref i2)) (hTO : IsPair s.heap TO a b)
    (h1 : IsTupIter s.heap i1 l1 k1) (h2 : IsTupIter s.heap i2 l2 k2) (hl1 : IsTup s.heap l1 xs) (hl2 : IsTup s.heap l2 ys) (hx : xs[k1]? = some x) (hy : ys[k2]? = some y)
    (hQ : ∀ h', IsZip h' z TI TO (rawInt s.heap.objs.size) → IsTupIter h' i1 l1 (k1 + 1) → IsTupIter h' i2 l2 (k2 + 1) → IsPair h' s.heap.objs.size x y → h'.objs.size = s.heap.objs.size + 1 →
      (∀ c o, c ≠ z → c ≠ TO → c ≠ i1 → c ≠ i2 → s.heap.get? c = some o → h'.get? c = some o) → Q (.ref s.heap.objs.size) { s with heap := h' }) :
    wpAny (model prog w) A (Builtin.«zip.__next__» ⟨[.ref z], []⟩) (fun fin s' => ∃ v, fin = .done (.ret v) ∧ Q v s') E s := by
  show wpAny _ _ (field (.ref z) 2 >>= _) _ _ _
  refine wpAny_bind (wpAny_field hz rfl (x := .bool false) rfl ?_)
  show wpAny _ _ (field (.ref z) 3 >>= _) _ _ _
  refine wpAny_bind (wpAny_field hz rfl (x := .ref TI) rfl ?_)
  refine wpAny_bind (wpAny_seqItems hTI rfl ?_)
  show wpAny _ _ (Builtin.SmallTypes.ownedTupleIsFree (.ref z) >>= _) _ _ _
  refine wpAny_bind ?_
  unfold Builtin.SmallTypes.ownedTupleIsFree
  refine wpAny_bind (wpAny_field hz rfl (x := .none) rfl (wpAny_pure ?_))
  simp only [if_true]
  refine wpAny_bind (wpAny_rule ?_)
  refine wpAny_bind (wpAny_field hz rfl (x := .ref TO) rfl ?_)
  refine wpAny_bind (wpAny_setField_rec hz (by simp) fun h₁ hz₁ hs₁ => ?_)
  replace hz₁ : IsZip h₁ z TI TO .ellipsis := hz₁
  refine wpAny_bind ?_
  simp only [List.zipIdx_cons, List.zipIdx_nil, List.forIn_cons, List.forIn_nil]
  refine wpAny_bind (wpAny_bind (wpAny_onRaise ?_))
  show wpAny _ _ (Builtin.SmallTypes.nextOf (.ref i1) >>= _) _ _ _
  refine wpAny_bind (nextOf_tup (h1.extBut hs₁.extBut D.i1z) (hl1.extBut hs₁.extBut D.l1z) hx fun h₂ h1₂ hs₂ => wpAny_pure ?_)
  have hTO₂ : IsPair h₂ TO a b := hs₂.extBut _ _ D.TOi1 (hs₁.extBut _ _ D.TOz hTO)
  refine wpAny_bind (wpAny_seqItems hTO₂ rfl ?_)
  refine wpAny_bind (wpAny_updateSeq_pair hTO₂ fun h₃ hTO₃ hs₃ => ?_)
  replace hTO₃ : IsPair h₃ TO x b := hTO₃
  refine wpAny_bind (wpAny_letGo (wpAny_pure ?_))
  refine wpAny_bind (wpAny_bind (wpAny_onRaise ?_))
  show wpAny _ _ (Builtin.SmallTypes.nextOf (.ref i2) >>= _) _ _ _
  refine wpAny_bind (nextOf_tup (((h2.extBut hs₁.extBut D.i2z).extBut hs₂.extBut D.i12.symm).extBut hs₃.extBut D.TOi2.symm)
    (((hl2.extBut hs₁.extBut D.l2z).extBut hs₂.extBut D.l2i1).extBut hs₃.extBut D.l2TO) hy fun h₄ h2₄ hs₄ => wpAny_pure ?_)
  have hTO₄ : IsPair h₄ TO x b := hs₄.extBut _ _ D.TOi2 hTO₃
  refine wpAny_bind (wpAny_seqItems hTO₄ rfl ?_)
  refine wpAny_bind (wpAny_updateSeq_pair hTO₄ fun h₅ hTO₅ hs₅ => ?_)
  replace hTO₅ : IsPair h₅ TO x y := hTO₅
  refine wpAny_bind (wpAny_letGo (wpAny_pure (wpAny_pure ?_)))
  refine wpAny_bind (wpAny_seqItems hTO₅ rfl ?_)
  refine wpAny_bind (wpAny_newTuple ?_)
  have hsz : h₅.objs.size = s.heap.objs.size := by rw [hs₅.1, hs₄.1, hs₃.1, hs₂.1, hs₁.1]
  have hz₅ : IsZip h₅ z TI TO .ellipsis := hs₅.extBut _ _ D.TOz.symm (hs₄.extBut _ _ D.i2z.symm (hs₃.extBut _ _ D.TOz.symm (hs₂.extBut _ _ D.i1z.symm hz₁)))
  have hk₅ : ∀ c o, c ≠ z → c ≠ TO → c ≠ i1 → c ≠ i2 → s.heap.get? c = some o → h₅.get? c = some o := fun c o c1 c2 c3 c4 e =>
    hs₅.extBut _ _ c2 (hs₄.extBut _ _ c4 (hs₃.extBut _ _ c2 (hs₂.extBut _ _ c3 (hs₁.extBut _ _ c1 e))))
  have h1₅ : IsTupIter h₅ i1 l1 (k1 + 1) := ((h1₂.extBut hs₃.extBut D.TOi1.symm).extBut hs₄.extBut D.i12).extBut hs₅.extBut D.TOi1.symm
  have h2₅ : IsTupIter h₅ i2 l2 (k2 + 1) := h2₄.extBut hs₅.extBut D.TOi2.symm
  have hzlt : z < h₅.objs.size := Heap.lt_size hz₅
  show wpAny _ _ (Builtin.SmallTypes.ownedTupleHandOut (.ref z) (.ref h₅.objs.size) >>= _) _ _ _
  refine wpAny_bind ?_
  unfold Builtin.SmallTypes.ownedTupleHandOut
  have hz₆ : IsZip (h₅.push { cls := .type "tuple", data := .seq #[x, y] }) z TI TO .ellipsis := Heap.get?_push_of_some _ hz₅
  refine wpAny_bind (wpAny_setField_rec hz₆ (by simp) fun h₇ hz₇ hs₇ => ?_)
  replace hz₇ : IsZip h₇ z TI TO (rawInt h₅.objs.size) := hz₇
  refine wpAny_setField_rec hz₇ (by simp) fun h₈ hz₈ hs₈ => ?_
  replace hz₈ : IsZip h₈ z TI TO (rawInt h₅.objs.size) := hz₈
  have up : ∀ c o, c ≠ z → h₅.get? c = some o → h₈.get? c = some o := fun c o c1 e => hs₈.extBut _ _ c1 (hs₇.extBut _ _ c1 (Heap.get?_push_of_some _ e))
  have hT₈ : IsPair h₈ h₅.objs.size x y := hs₈.extBut _ _ (Nat.ne_of_gt hzlt) (hs₇.extBut _ _ (Nat.ne_of_gt hzlt) (Heap.get?_push_size _ rfl))
  have hz8 : h₈.objs.size = h₅.objs.size + 1 := by rw [hs₈.1, hs₇.1, Heap.size_push]
  rw [hsz] at hz₈ hT₈ hz8
  refine wpAny_pure ⟨_, rfl, ?_⟩
  show Q (.ref h₅.objs.size) _
  rw [hsz]
  refine hQ h₈ hz₈ ?_ ?_ hT₈ hz8 fun c o c1 c2 c3 c4 e => up c o c1 (hk₅ c o c1 c2 c3 c4 e)
  · obtain ⟨o, ho, r⟩ := h1₅
    exact ⟨o, up _ _ D.i1z ho, r⟩
  · obtain ⟨o, ho, r⟩ := h2₅
    exact ⟨o, up _ _ D.i2z ho, r⟩
theorem next_zip {z : Addr} {Q : Option Value → Shared → Prop} (hT : s.TypeIs (.ref z) "zip")
    (h : wpAny (model prog w) A.in1 (Builtin.«zip.__next__» ⟨[.ref z], []⟩) (fun fin s' => ∃ v, fin = .done (.ret v) ∧ Q (some v) s') (fun e s' => ∃ a, e = .ref a ∧ (∃ o, s'.heap.get? a = some o ∧ o.cls = .type "StopIteration") ∧ Q none s') s) :
    wpAny (model prog w) A (pyNext (.ref z)) Q E s := by
  unfold pyNext
  refine wpAny_bind (wpAny_attempt (wpAny_callSpecial?_slot (name := Str.ofString "__next__") hT F.slot_zip_next
    (wpAny_call_entry F.slot_zip_next hT F.entry_zip_next (wpAny_mono h (fun fin s' hv => ?_) fun e s' he => ?_) (F.args_zip_next_1 _))))
  · obtain ⟨v, rfl, hq⟩ := hv
    exact ⟨v, rfl, wpAny_pure hq⟩
  · obtain ⟨a, rfl, ⟨o, ho, hc⟩, hq⟩ := he
    refine wpAny_bind (wpAny_isInstance (T := "StopIteration") (b := true) ⟨o, ho, hc⟩ isSubtype_stop ?_)
    exact wpAny_pure hq
end
end
section
/-- a crossing ((num, den), way) -/
noncomputable abbrev Cr := Int × Int × Int
noncomputable def leC (a b : Cr) : Prop := a.1 * b.2.1 ≤ b.1 * a.2.1
theorem leC_trans {a b c : Cr} (ha : 0 < a.2.1) (hb : 0 < b.2.1) (hc : 0 < c.2.1) (h1 : leC a b) (h2 : leC b c) : leC a c := by
  unfold leC at *
  have e1 : a.1 * b.2.1 * c.2.1 ≤ b.1 * a.2.1 * c.2.1 := Int.mul_le_mul_of_nonneg_right h1 (Int.le_of_lt hc)
  have e2 : b.1 * c.2.1 * a.2.1 ≤ c.1 * b.2.1 * a.2.1 := Int.mul_le_mul_of_nonneg_right h2 (Int.le_of_lt ha)
  have e3 : b.1 * a.2.1 * c.2.1 = b.1 * c.2.1 * a.2.1 := by rw [Int.mul_assoc, Int.mul_comm a.2.1, ← Int.mul_assoc]
  have e4 : a.1 * b.2.1 * c.2.1 = a.1 * c.2.1 * b.2.1 := by rw [Int.mul_assoc, Int.mul_comm b.2.1, ← Int.mul_assoc]
  have e5 : c.1 * b.2.1 * a.2.1 = c.1 * a.2.1 * b.2.1 := by rw [Int.mul_assoc, Int.mul_comm b.2.1, ← Int.mul_assoc]
  rw [e3] at e1
  rw [e4] at e1
  rw [e5] at e2
  exact Int.le_of_mul_le_mul_right (Int.le_trans e1 e2) hb
theorem pw_ins {crs : List Cr} {cc : Cr} {k : Nat} (hp : crs.Pairwise leC) (hpos : ∀ cr ∈ crs, 0 < cr.2.1) (hc : 0 < cc.2.1) (hk : k ≤ crs.length) (h1 : ∀ (j : Nat) cr, crs[j]? = some cr → k ≤ j → ¬ leC cr cc) (h2 : ∀ cr, 0 < k → crs[k - 1]? = some cr → leC cr cc) :
    (crs.take k ++ cc :: crs.drop k).Pairwise leC := by
  have hsp : (crs.take k ++ crs.drop k).Pairwise leC := by rw [List.take_append_drop]; exact hp
  rw [List.pairwise_append] at hsp ⊢
  obtain ⟨ht, hd, hx⟩ := hsp
  refine ⟨ht, List.pairwise_cons.mpr ⟨fun b hb => ?_, hd⟩, fun a ha b hb => ?_⟩
  · obtain ⟨j, hj, e⟩ := List.getElem_of_mem hb
    have hj' : crs[k + j]? = some b := by
      rw [← List.getElem?_drop]
      rw [List.getElem?_eq_getElem hj, e]
    have := h1 (k + j) b hj' (Nat.le_add_right _ _)
    unfold leC at this ⊢
    omega
  · rcases List.mem_cons.mp hb with rfl | hb
    · obtain ⟨j, hj, e⟩ := List.getElem_of_mem ha
      have hjk : j < k := by
        have := hj
        rw [List.length_take] at this
        omega
      have hk0 : 0 < k := by omega
      have hk1 : k - 1 < crs.length := by omega
      have hlast := h2 crs[k - 1] hk0 (List.getElem?_eq_getElem hk1)
      by_cases hjl : j = k - 1
      · have : a = crs[k - 1] := by rw [← e, List.getElem_take]; congr 1
        rw [this]; exact hlast
      · have hab : leC a crs[k - 1] := by
          rw [← e, List.getElem_take]
          exact List.pairwise_iff_getElem.mp hp j (k - 1) (by omega) hk1 (by omega)
        exact leC_trans (hpos _ (by rw [← e, List.getElem_take]; exact List.getElem_mem _)) (hpos _ (List.getElem_mem _)) hc hab hlast
    · exact hx a ha b hb
theorem perm_ins {α : Type} {l r : List α} {c : α} {k : Nat} (h : l.Perm r) : (l.take k ++ c :: l.drop k).Perm (r ++ [c]) := by
  refine List.perm_middle.trans ?_
  rw [List.take_append_drop]
  exact (List.Perm.cons c h).trans (List.perm_append_singleton c r).symm
theorem dat_take {news : List (Addr × Obj)} {α : Type} {f : α → Dat} {vs : List Value} {cs : List α} (h : DatAll news vs (cs.map f)) : ∀ k, DatAll news (vs.take k) ((cs.take k).map f) := by
  induction cs generalizing vs with
  | nil => intro k; cases h; simpa using DatAll.nil
  | cons c cs ih =>
    intro k
    cases h with
    | cons h1 hr =>
      cases k with
      | zero => exact .nil
      | succ k => exact .cons h1 (ih hr k)
theorem dat_drop {news : List (Addr × Obj)} {α : Type} {f : α → Dat} {vs : List Value} {cs : List α} (h : DatAll news vs (cs.map f)) : ∀ k, DatAll news (vs.drop k) ((cs.drop k).map f) := by
  induction cs generalizing vs with
  | nil => intro k; cases h; simpa using DatAll.nil
  | cons c cs ih =>
    intro k
    cases h with
    | cons h1 hr =>
      cases k with
      | zero => exact .cons h1 hr
      | succ k => exact ih hr k
theorem dat_ins {news : List (Addr × Obj)} {α : Type} {f : α → Dat} {vs : List Value} {cs : List α} {v : Value} {c : α} (h : DatAll news vs (cs.map f)) (hc : DatIn news v (f c)) (k : Nat) : DatAll news (vs.take k ++ v :: vs.drop k) ((cs.take k ++ c :: cs.drop k).map f) := by
  rw [List.map_append, List.map_cons]
  exact (dat_take h k).append (.cons hc (dat_drop h k))
end
section
set_option maxHeartbeats 2000000
theorem zip_no_len : typeLookup (.type "zip") "__len__" = pure none := by rw [typeLookup_type, builtinLookup_eq_fast]; kernel_rfl
theorem zip_no_hint : typeLookup (.type "zip") "__length_hint__" = pure none := by rw [typeLookup_type, builtinLookup_eq_fast]; kernel_rfl
noncomputable abbrev tz1 (h : Heap) (l1 : Addr) : Heap := h.push { cls := .type "tuple_iterator", data := .fields #[.ref l1, .int 0 0] }
noncomputable abbrev tz2 (h : Heap) (l1 l2 : Addr) : Heap := (tz1 h l1).push { cls := .type "tuple_iterator", data := .fields #[.ref l2, .int 0 0] }
noncomputable abbrev tz3 (h : Heap) (l1 l2 : Addr) : Heap := (tz2 h l1 l2).push { cls := .type "tuple", data := .seq #[.ref h.objs.size, .ref (tz1 h l1).objs.size] }
noncomputable abbrev tz4 (h : Heap) (l1 l2 : Addr) : Heap := (tz3 h l1 l2).push { cls := .type "tuple", data := .seq #[.none, .none] }
noncomputable abbrev tz5 (h : Heap) (l1 l2 : Addr) : Heap := (tz4 h l1 l2).push { cls := .type "zip", data := .fields #[.none, .bool false, .bool false, .ref (tz2 h l1 l2).objs.size, .ref (tz3 h l1 l2).objs.size] }
theorem meets_zip_tup (l1 l2 : Addr) (xs ys : Array Value) :
    Meets (Builtin.«zip.__new__» ⟨[.type "zip", .ref l1, .ref l2], []⟩) (fun _ R s => IsTup s.heap l1 xs ∧ IsTup s.heap l2 ys ∧
      R (.ok (.ret (.ref (tz4 s.heap l1 l2).objs.size))) { s with heap := tz5 s.heap l1 l2 }) :=
  .of_wp fun prog w A R s h => by
    obtain ⟨hp, g, d, tk, os⟩ := s; obtain ⟨hl1, hl2, h⟩ := h
    have hsub := sub_zip
    have hL1 : IsTup (Shared.heap ⟨hp, g, d, tk, os⟩) l1 xs := hl1
    have hL2 : IsTup (Shared.heap ⟨hp.push { cls := .type "tuple_iterator", data := .fields #[.ref l1, .int 0 0] }, g, d, tk, os⟩) l2 ys := IsTup.push hl2 _
    wp_walk using iter_tuple hL1, iter_tuple hL2
    exact ⟨_, rfl, h⟩
section
variable {prog : Program} {w : World} {A : Around} {E : Value → Shared → Prop} {s : Shared}
theorem call_zip_tup {l1 l2 : Addr} {xs ys : Array Value} {Q : Value → Shared → Prop} (hl1 : IsTup s.heap l1 xs) (hl2 : IsTup s.heap l2 ys)
    (h : ∀ h', IsZip h' (s.heap.objs.size + 4) (s.heap.objs.size + 2) (s.heap.objs.size + 3) .none → IsPair h' (s.heap.objs.size + 2) (.ref s.heap.objs.size) (.ref (s.heap.objs.size + 1)) →
      IsPair h' (s.heap.objs.size + 3) .none .none → IsTupIter h' s.heap.objs.size l1 0 → IsTupIter h' (s.heap.objs.size + 1) l2 0 → h'.objs.size = s.heap.objs.size + 5 →
      (∀ c o, s.heap.get? c = some o → h'.get? c = some o) → Q (.ref (s.heap.objs.size + 4)) { s with heap := h' }) :
    wpAny (model prog w) A (call (.type "zip") [.ref l1, .ref l2]) Q E s := by
  refine callType_new F.called_zip (by decide) (F.typeCall_zip_2 _ _) (F.newCall_zip_2 _ _) (fun obj => F.args_object_init_3 obj _ _) F.entry_zip_new
    (meets_zip_tup l1 l2 xs ys) ⟨hl1, hl2, ?_⟩
  have z1 : (tz1 s.heap l1).objs.size = s.heap.objs.size + 1 := Heap.size_push ..
  have z2 : (tz2 s.heap l1 l2).objs.size = s.heap.objs.size + 2 := by rw [Heap.size_push, z1]
  have z3 : (tz3 s.heap l1 l2).objs.size = s.heap.objs.size + 3 := by rw [Heap.size_push, z2]
  have z4 : (tz4 s.heap l1 l2).objs.size = s.heap.objs.size + 4 := by rw [Heap.size_push, z3]
  have z5 : (tz5 s.heap l1 l2).objs.size = s.heap.objs.size + 5 := by rw [Heap.size_push, z4]
  have g5 : (tz5 s.heap l1 l2).get? (tz4 s.heap l1 l2).objs.size = some _ := Heap.get?_push_size _ rfl
  have g4 : (tz5 s.heap l1 l2).get? (tz3 s.heap l1 l2).objs.size = some _ := Heap.get?_push_of_some _ (Heap.get?_push_size _ rfl)
  have g3 : (tz5 s.heap l1 l2).get? (tz2 s.heap l1 l2).objs.size = some _ := Heap.get?_push_of_some _ (Heap.get?_push_of_some _ (Heap.get?_push_size _ rfl))
  have g2 : (tz5 s.heap l1 l2).get? (tz1 s.heap l1).objs.size = some _ := Heap.get?_push_of_some _ (Heap.get?_push_of_some _ (Heap.get?_push_of_some _ (Heap.get?_push_size _ rfl)))
  have g1 : (tz5 s.heap l1 l2).get? s.heap.objs.size = some _ := Heap.get?_push_of_some _ (Heap.get?_push_of_some _ (Heap.get?_push_of_some _ (Heap.get?_push_of_some _ (Heap.get?_push_size _ rfl))))
  show _ ∧ _
  rw [z2, z3, z4] at g5
  rw [z1, z2] at g3
  rw [z3] at g4
  rw [z1] at g2
  rw [z4]
  exact ⟨⟨_, g5, rfl⟩, h _ g5 g3 g4 ⟨_, g1, rfl, rfl⟩ ⟨_, g2, rfl, rfl⟩ z5 fun c o x =>
    Heap.get?_push_of_some _ (Heap.get?_push_of_some _ (Heap.get?_push_of_some _ (Heap.get?_push_of_some _ (Heap.get?_push_of_some _ x))))⟩
theorem zap {n l1 l2 : Nat} (h1 : l1 < n) (h2 : l2 < n) : ZipApart (n + 4) (n + 2) (n + 3) n (n + 1) l1 l2 := by
  constructor <;> show ¬ (@Eq Nat _ _) <;> omega
/-- a zip of two tuples, k turns taken -/
structure Zq (S : Addr) (h : Heap) (z TI TO i1 i2 l1 l2 : Addr) (vs ws : List Value) (k : Nat) : Prop where
  zp : (k = 0 ∧ IsZip h z TI TO .none ∧ IsPair h TO .none .none) ∨ (∃ (a : Addr) (oa : Obj) (f : Bool), Zp h z TI TO (rawInt a) (.bool f) ∧ h.get? a = some oa ∧ a ≠ z ∧ a ≠ i1 ∧ a ≠ i2 ∧ a ≠ S)
  ti : IsPair h TI (.ref i1) (.ref i2)
  it1 : IsTupIter h i1 l1 k
  it2 : IsTupIter h i2 l2 k
  t1 : IsTup h l1 vs.toArray
  t2 : IsTup h l2 ws.toArray
theorem Zq.keep {S z TI TO i1 i2 l1 l2 : Addr} {vs ws : List Value} {k : Nat} {h h' : Heap} (H : Zq S h z TI TO i1 i2 l1 l2 vs ws k) (hd : ∀ c ∈ [z, TI, TO, i1, i2, l1, l2], c ≠ S) (hk : ∀ c o, c ≠ S → h.get? c = some o → h'.get? c = some o) : Zq S h' z TI TO i1 i2 l1 l2 vs ws k := by
  have k1 : ∀ c ∈ [z, TI, TO, i1, i2, l1, l2], ∀ o, h.get? c = some o → h'.get? c = some o := fun c hc o e => hk c o (hd c hc) e
  refine ⟨?_, k1 _ (by simp) _ H.ti, ?_, ?_, ?_, ?_⟩
  · rcases H.zp with ⟨a, b, c⟩ | ⟨a, oa, f, b, c, d1, d2, d3, d4⟩
    · exact .inl ⟨a, k1 _ (by simp) _ b, k1 _ (by simp) _ c⟩
    · exact .inr ⟨a, oa, f, k1 _ (by simp) _ b, hk _ _ d4 c, d1, d2, d3, d4⟩
  · obtain ⟨o, ho, r⟩ := H.it1
    exact ⟨o, k1 _ (by simp) _ ho, r⟩
  · obtain ⟨o, ho, r⟩ := H.it2
    exact ⟨o, k1 _ (by simp) _ ho, r⟩
  · obtain ⟨o, ho, r⟩ := H.t1
    exact ⟨o, k1 _ (by simp) _ ho, r⟩
  · obtain ⟨o, ho, r⟩ := H.t2
    exact ⟨o, k1 _ (by simp) _ ho, r⟩
theorem Zq.next {S z TI TO i1 i2 l1 l2 : Addr} {vs ws : List Value} {k : Nat} {x y : Value} {Q : Option Value → Shared → Prop} (D : ZipApart z TI TO i1 i2 l1 l2) (H : Zq S s.heap z TI TO i1 i2 l1 l2 vs ws k) (hS : S < s.heap.objs.size) (hx : vs[k]? = some x) (hy : ws[k]? = some y)
    (hQ : ∀ h', Zq S h' z TI TO i1 i2 l1 l2 vs ws (k + 1) → h'.get? s.heap.objs.size = some (tupOf [x, y] 0) → h'.objs.size = s.heap.objs.size + 1 →
      (∀ c o, c ≠ z → c ≠ TO → c ≠ i1 → c ≠ i2 → s.heap.get? c = some o → h'.get? c = some o) → Q (some (.ref s.heap.objs.size)) { s with heap := h' }) :
    wpAny (model prog w) A (pyNext (.ref z)) Q E s := by
  have hx' : vs.toArray[k]? = some x := by simpa using hx
  have hy' : ws.toArray[k]? = some y := by simpa using hy
  have l1n : i1 ≠ s.heap.objs.size := by obtain ⟨_, e, _⟩ := H.it1; exact Nat.ne_of_lt (Heap.lt_size e)
  have l2n : i2 ≠ s.heap.objs.size := by obtain ⟨_, e, _⟩ := H.it2; exact Nat.ne_of_lt (Heap.lt_size e)
  rcases H.zp with ⟨rfl, b, c⟩ | ⟨a, oa, f, b, c, d1, d2, d3, d4⟩
  · have zn : z ≠ s.heap.objs.size := Nat.ne_of_lt (Heap.lt_size b)
    refine next_zip ⟨_, b, rfl⟩ ?_
    refine zipn_first D b H.ti c H.it1 H.it2 H.t1 H.t2 hx' hy' fun h' e1 e2 e3 e4 e5 e6 => ?_
    refine hQ h' ⟨.inr ⟨_, _, false, e1, e4, zn.symm, l1n.symm, l2n.symm, Nat.ne_of_gt hS⟩, e6 _ _ D.TIz D.TITO D.TIi1 D.TIi2 H.ti, e2, e3, ?_, ?_⟩ e4 e5 e6
    · obtain ⟨o, ho, r⟩ := H.t1
      exact ⟨o, e6 _ _ D.l1z D.l1TO D.l1i1 D.l1i2 ho, r⟩
    · obtain ⟨o, ho, r⟩ := H.t2
      exact ⟨o, e6 _ _ D.l2z D.l2TO D.l2i1 D.l2i2 ho, r⟩
  · have zn : z ≠ s.heap.objs.size := Nat.ne_of_lt (Heap.lt_size b)
    refine next_zip ⟨_, b, rfl⟩ ?_
    refine zipn_out D b c H.ti H.it1 H.it2 H.t1 H.t2 hx' hy' fun h' e1 e2 e3 e4 e5 e6 => ?_
    refine hQ h' ⟨.inr ⟨a, oa, true, e1, e6 _ _ d1 d2 d3 c, d1, d2, d3, d4⟩, e6 _ _ D.TIz D.TIi1 D.TIi2 H.ti, e2, e3, ?_, ?_⟩ e4 e5 (fun c' o c1 _ c3 c4 e => e6 c' o c1 c3 c4 e)
    · obtain ⟨o, ho, r⟩ := H.t1
      exact ⟨o, e6 _ _ D.l1z D.l1i1 D.l1i2 ho, r⟩
    · obtain ⟨o, ho, r⟩ := H.t2
      exact ⟨o, e6 _ _ D.l2z D.l2i1 D.l2i2 ho, r⟩
theorem Zq.fin {S z TI TO i1 i2 l1 l2 : Addr} {vs ws : List Value} {k : Nat} {x : Value} {Q : Option Value → Shared → Prop} (hh : A.handled = none) (D : ZipApart z TI TO i1 i2 l1 l2) (H : Zq S s.heap z TI TO i1 i2 l1 l2 vs ws k) (h0 : k ≠ 0) (hx : vs[k]? = some x) (hy : ws[k]? = none)
    (hQ : ∀ h', (∀ c o, c ≠ z → c ≠ TO → c ≠ i1 → c ≠ i2 → s.heap.get? c = some o → h'.get? c = some o) → Q none { s with heap := h' }) :
    wpAny (model prog w) A (pyNext (.ref z)) Q E s := by
  have hx' : vs.toArray[k]? = some x := by simpa using hx
  have hy' : ws.toArray[k]? = none := by simpa using hy
  rcases H.zp with ⟨rfl, b, c⟩ | ⟨a, oa, f, b, c, d1, d2, d3, d4⟩
  · exact absurd rfl h0
  · refine next_zip ⟨_, b, rfl⟩ ?_
    exact zipn_end hh D b c H.ti H.it1 H.it2 H.t1 H.t2 hx' hy' fun h' e hk he => ⟨e, rfl, he, hQ h' fun c' o c1 _ c3 c4 x => hk c' o c1 c3 c4 x⟩
end
noncomputable abbrev tp2 (p : Value × Value) : Obj := tupOf [p.1, p.2] 0
theorem zloop {prog : Program} {w : World} {A : Around} {R : Result → Shared → Prop} (hh : A.in1.handled = none) {S z TI TO i1 i2 l1 l2 : Addr} {vs ws : List Value} {res : Value} (D : ZipApart z TI TO i1 i2 l1 l2) (hd : ∀ c ∈ [z, TI, TO, i1, i2, l1, l2], c ≠ S) (hne : ws ≠ []) (hlen : vs.length = ws.length + 1) (hsz : ws.length ≤ 1000) :
    ∀ (j k : Nat) (s : Shared) (acc : Array Value) (c : Nat), ws.length - k = j → k ≤ ws.length → Zq S s.heap z TI TO i1 i2 l1 l2 vs ws k → s.heap.get? S = some { cls := .type "list", dict := none, data := .seq acc c, slots := #[] } → acc.size = k → TO < s.heap.objs.size →
    (∀ h' acc' c' (T : List (Addr × Obj)), (∀ b o, b ≠ S → b ≠ z → b ≠ TO → b ≠ i1 → b ≠ i2 → s.heap.get? b = some o → h'.get? b = some o) → h'.get? S = some { cls := .type "list", dict := none, data := .seq acc' c', slots := #[] } →
      acc'.toList = acc.toList ++ T.map (fun p : Addr × Obj => Value.ref p.1) → T.map (·.2) = ((vs.zip ws).drop k).map tp2 → (∀ p ∈ T, s.heap.objs.size ≤ p.1 ∧ h'.get? p.1 = some p.2) → R (.ok (.ret res)) { s with heap := h' }) →
    codeAny (model prog w) A (.builtin "list.extend.loop" ⟨[.ref S, .ref z, res], []⟩) R s := by
  intro j
  induction j with
  | zero =>
    intro k s acc c hj hk H hS hacc hTO hR
    have hkk : k = ws.length := by omega
    subst hkk
    refine codeAny_builtin F.entry_extend_loop ?_
    rw [Around.under_plainId F.plain_extend_loop _]
    show wpAny _ A.in1 (pyNext (.ref z) >>= _) _ _ s
    have hlt : ws.length < vs.length := by omega
    refine wpAny_bind (Zq.fin hh D H (fun e => hne (List.eq_nil_of_length_eq_zero e)) (List.getElem?_eq_getElem hlt) (List.getElem?_eq_none (Nat.le_refl _)) fun h' hkeep => ?_)
    refine wpAny_pure (hR h' acc c [] (fun b o b1 b2 b3 b4 b5 e => hkeep b o b2 b3 b4 b5 e) (hkeep _ _ (hd _ (by simp)).symm (hd _ (by simp)).symm (hd _ (by simp)).symm (hd _ (by simp)).symm hS) (by simp) ?_ (fun _ hp => nomatch hp))
    rw [List.drop_eq_nil_of_le (by rw [List.length_zip]; omega)]
    rfl
  | succ j ih =>
    intro k s acc c hj hk H hS hacc hTO hR
    have hlt : k < ws.length := by omega
    have hlt' : k < vs.length := by omega
    refine codeAny_builtin F.entry_extend_loop ?_
    rw [Around.under_plainId F.plain_extend_loop _]
    show wpAny _ A.in1 (pyNext (.ref z) >>= _) _ _ s
    refine wpAny_bind (Zq.next D H (Heap.lt_size hS) (List.getElem?_eq_getElem hlt') (List.getElem?_eq_getElem hlt) fun h₁ H₁ hp₁ hz₁ hk₁ => ?_)
    have hS₁ := hk₁ _ _ (hd _ (by simp)).symm (hd _ (by simp)).symm (hd _ (by simp)).symm (hd _ (by simp)).symm hS
    have hnS : s.heap.objs.size ≠ S := Nat.ne_of_gt (Heap.lt_size hS)
    show wpAny _ A.in1 (updateSeq S (·.push (.ref s.heap.objs.size)) >>= _) _ _ _
    refine wpAny_bind ?_
    refine wpAny_updateSeq (s := { s with heap := h₁ }) hS₁ rfl (wpAny_pure ⟨plainId_quiet F.plain_extend_loop _, ih (k + 1) _ (acc.push (.ref s.heap.objs.size)) _ (by omega) hlt (H₁.keep hd fun b o hb e => (Heap.get?_update_other _ _ (Ne.symm hb)).trans e)
      (Heap.get?_update_self _ hS₁ rfl) (by rw [Array.size_push, hacc]) (by rw [(Heap.SameBut.update ..).1, hz₁]; exact Nat.lt_succ_of_lt hTO) fun h' acc' c' T hk' hS' ha' hT' hp' => ?_⟩)
      (by rw [hacc, sizeLine_eq]; omega) (by show (acc.push _).size ≤ sizeLine + 1; rw [Array.size_push, hacc, sizeLine_eq]; omega)
    have oz : ∀ {b o}, s.heap.get? b = some o → s.heap.objs.size ≠ b := fun e => Nat.ne_of_gt (Heap.lt_size e)
    have zz : s.heap.objs.size ≠ z := by rcases H.zp with ⟨_, e, _⟩ | ⟨_, _, _, e, _⟩ <;> exact oz e
    have z1 : s.heap.objs.size ≠ i1 := by obtain ⟨_, e, _⟩ := H.it1; exact oz e
    have z2 : s.heap.objs.size ≠ i2 := by obtain ⟨_, e, _⟩ := H.it2; exact oz e
    have hup : ∀ b o, b ≠ S → h₁.get? b = some o → (h₁.update S (Obj.mapSeq (·.push (.ref s.heap.objs.size)))).get? b = some o := fun b o hb e => (Heap.get?_update_other _ _ (Ne.symm hb)).trans e
    refine hR h' acc' c' ((s.heap.objs.size, tupOf [vs[k], ws[k]] 0) :: T) (fun b o b1 b2 b3 b4 b5 e => hk' b o b1 b2 b3 b4 b5 (hup _ _ b1 (hk₁ _ _ b2 b3 b4 b5 e))) hS' ?_ ?_ ?_
    · rw [ha']; simp
    · rw [List.map_cons, hT', List.drop_eq_getElem_cons (show k < (vs.zip ws).length by rw [List.length_zip]; exact Nat.lt_min.mpr ⟨hlt', hlt⟩)]
      simp [tp2]
    · intro p hp
      rcases List.mem_cons.mp hp with rfl | hp
      · exact ⟨Nat.le_refl _, hk' _ _ hnS zz (Nat.ne_of_gt hTO) z1 z2 (hup _ _ hnS hp₁)⟩
      · have := hp' p hp
        refine ⟨?_, this.2⟩
        have h3 : (h₁.update S (Obj.mapSeq (·.push (.ref s.heap.objs.size)))).objs.size = s.heap.objs.size + 1 := by rw [(Heap.SameBut.update ..).1, hz₁]
        have h4 := this.1
        rw [h3] at h4
        exact Nat.le_of_succ_le h4
section
variable {prog : Program} {w : World} {A : Around} {E : Value → Shared → Prop} {s : Shared} {h₀ : Heap} {L : Addr} {m : Str → Option Value} {news : List (Addr × Obj)}
/-- the zip, as the walk bears it -/
noncomputable def ZipSt (h : Heap) (L : Addr) (h₀ : Heap) (news : List (Addr × Obj)) (z : Addr) (vs ws : List Value) : Prop :=
  ∃ TI TO i1 i2 l1 l2, ZipApart z TI TO i1 i2 l1 l2 ∧ IsZip h z TI TO .none ∧ (∀ S, h.objs.size ≤ S → Zq S h z TI TO i1 i2 l1 l2 vs ws 0) ∧ (∀ c ∈ [z, TO, i1, i2], c ≠ L ∧ h₀.get? c = none ∧ ∀ p ∈ news, p.1 ≠ c) ∧ (∀ c ∈ [z, TI, TO, i1, i2, l1, l2], c < h.objs.size)
theorem zip_pair {t1 t2 : Addr} {vs ws : List Value} {n1 n2 : Nat} {Q : Value → Shared → Prop} (F : Fr h₀ L s.heap m) (N : News h₀ L s.heap news) (m1 : (t1, tupOf vs n1) ∈ news) (m2 : (t2, tupOf ws n2) ∈ news)
    (h : ∀ z h', Fr h₀ L h' m → News h₀ L h' news → ZipSt h' L h₀ news z vs ws → Q (.ref z) { s with heap := h' }) :
    wpAny (model prog w) A (call (.type "zip") [.ref t1, .ref t2]) Q E s := by
  have g1 := (N _ m1).1
  have g2 := (N _ m2).1
  have hl1 := Heap.lt_size g1
  have hl2 := Heap.lt_size g2
  have hL := F.ns.lt
  refine call_zip_tup (xs := vs.toArray) (ys := ws.toArray) ⟨_, g1, rfl, n1, rfl⟩ ⟨_, g2, rfl, n2, rfl⟩ fun h' e1 e2 e3 e4 e5 e6 e7 => ?_
  refine h _ h' (F.kept e7) (N.grown e7) ⟨s.heap.objs.size + 2, s.heap.objs.size + 3, s.heap.objs.size, s.heap.objs.size + 1, t1, t2, ?_, e1, ?_, ?_, ?_⟩
  · exact zap hl1 hl2
  · intro S _
    exact ⟨.inl ⟨rfl, e1, e3⟩, e2, e4, e5, ⟨_, e7 _ _ g1, rfl, n1, rfl⟩, ⟨_, e7 _ _ g2, rfl, n2, rfl⟩⟩
  · have fresh : ∀ a, s.heap.objs.size ≤ a → a ≠ L ∧ h₀.get? a = none ∧ ∀ p ∈ news, p.1 ≠ a := fun a ha =>
      ⟨Nat.ne_of_gt (Nat.lt_of_lt_of_le hL ha), Heap.get?_none_of_le (Nat.le_trans (Nat.le_trans F.above (Nat.le_of_lt hL)) ha), fun p hp => Nat.ne_of_lt (Nat.lt_of_lt_of_le (Heap.lt_size (N p hp).1) ha)⟩
    intro c hc
    refine fresh c ?_
    simp at hc
    rcases hc with rfl | rfl | rfl | rfl
    · exact Nat.le_add_right ..
    · exact Nat.le_add_right ..
    · exact Nat.le_refl _
    · exact Nat.le_add_right ..
  · intro c hc
    simp at hc
    rw [e6]
    rcases hc with rfl | rfl | rfl | rfl | rfl | rfl | rfl
    · exact Nat.add_lt_add_left (by decide) _
    · exact Nat.add_lt_add_left (by decide) _
    · exact Nat.add_lt_add_left (by decide) _
    · exact Nat.lt_add_of_pos_right (by decide)
    · exact Nat.add_lt_add_left (by decide) _
    · exact Nat.lt_add_right _ hl1
    · exact Nat.lt_add_right _ hl2
theorem list_zip {z : Addr} {vs ws : List Value} {Q : Value → Shared → Prop} (hh : A.handled = none) (F : Fr h₀ L s.heap m) (N : News h₀ L s.heap news) (Z : ZipSt s.heap L h₀ news z vs ws) (hne : ws ≠ []) (hlen : vs.length = ws.length + 1) (hsz : ws.length ≤ 1000)
    (h : ∀ l (out : List Value) n (T : List (Addr × Obj)) h', Fr h₀ L h' m → News h₀ L h' ((l, listOf out.toArray n) :: (news ++ T)) → out = T.map (fun p : Addr × Obj => Value.ref p.1) → T.map (·.2) = (vs.zip ws).map tp2 → out.length = ws.length → (∀ q ∈ news, @LT.lt Nat _ q.1 l) → (∀ q ∈ news, ∀ p ∈ T, q.1 < p.1) → (∀ p ∈ T, @LT.lt Nat _ l p.1) → Q (.ref l) { s with heap := h' }) :
    wpAny (model prog w) A (call (.type "list") [.ref z]) Q E s := by
  obtain ⟨TI, TO, i1, i2, l1, l2, D, hz0, H, hfr, hlt⟩ := Z
  have hL := F.ns.lt
  have hS : (s.heap.push { cls := .type "list", data := .seq #[] }).get? s.heap.objs.size = some { cls := .type "list", data := .seq #[] } := Heap.get?_push_size _ rfl
  have hd : ∀ c ∈ [z, TI, TO, i1, i2, l1, l2], c ≠ s.heap.objs.size := fun c hc => Nat.ne_of_lt (hlt c hc)
  have hH := H _ (Nat.le_refl _)
  have key : ∀ (h₂ : Heap) (c₁ : Nat), (∀ b o, b ≠ s.heap.objs.size → s.heap.get? b = some o → h₂.get? b = some o) → h₂.objs.size = s.heap.objs.size + 1 → h₂.get? s.heap.objs.size = some { cls := .type "list", data := .seq #[] c₁ } →
      codeAny (model prog w) A.in1 (.builtin "list.extend.loop" ⟨[.ref s.heap.objs.size, .ref z, .none], []⟩) (wants (fun r s₂ => r = .none ∧ Q (.ref s.heap.objs.size) s₂) E) { s with heap := h₂ } := by
    intro h₂ c₁ hk hz₂ hS₂
    refine zloop (A := A.in1) hh D hd hne hlen hsz ws.length 0 { s with heap := h₂ } #[] c₁ rfl (Nat.zero_le _) (hH.keep hd hk) hS₂ rfl (by rw [hz₂]; exact Nat.lt_succ_of_lt (hlt _ (by simp))) fun h' acc' c' T hk' hS' ha' hT' hp' => ?_
    refine ⟨rfl, ?_⟩
    have hacc : acc' = (T.map (fun p : Addr × Obj => Value.ref p.1)).toArray := by
      apply Array.toList_inj.mp; rw [ha']; simp
    have up : ∀ b o, b ≠ z → b ≠ TO → b ≠ i1 → b ≠ i2 → s.heap.get? b = some o → h'.get? b = some o := fun b o b1 b2 b3 b4 e =>
      hk' b o (Nat.ne_of_lt (Heap.lt_size e)) b1 b2 b3 b4 (hk b o (Nat.ne_of_lt (Heap.lt_size e)) e)
    have hT0 : ∀ p ∈ T, s.heap.objs.size < p.1 ∧ h'.get? p.1 = some p.2 := fun p hp => ⟨Nat.lt_of_lt_of_le (Nat.lt_succ_self _) (Nat.le_trans (Nat.le_of_eq hz₂.symm) (hp' p hp).1), (hp' p hp).2⟩
    have hn0 : ∀ a, s.heap.objs.size ≤ a → a ≠ L ∧ h₀.get? a = none := fun a ha => ⟨Nat.ne_of_gt (Nat.lt_of_lt_of_le hL ha), Heap.get?_none_of_le (Nat.le_trans (Nat.le_trans F.above (Nat.le_of_lt hL)) ha)⟩
    refine h _ (T.map (fun p : Addr × Obj => Value.ref p.1)) c' T h' ?_ ?_ rfl (by simpa using hT') (by have := congrArg List.length hT'; simp at this ⊢; rw [this, hlen]; exact Nat.min_eq_right (Nat.le_succ _)) (fun q hq => Heap.lt_size (N q hq).1) (fun q hq p hp => Nat.lt_trans (Heap.lt_size (N q hq).1) (hT0 p hp).1) (fun p hp => (hT0 p hp).1)
    · obtain ⟨oL, a1, a2, hLo, a3⟩ := F.ns
      have hLz := fun c hc => (hfr c hc).1
      refine ⟨⟨oL, a1, a2, up _ _ (hLz z (by simp)).symm (hLz TO (by simp)).symm (hLz i1 (by simp)).symm (hLz i2 (by simp)).symm hLo, a3⟩, fun b o e => ?_, F.above⟩
      have hb : ∀ c ∈ [z, TO, i1, i2], b ≠ c := fun c hc e' => by
        have := (hfr c hc).2.1
        rw [← e', e] at this
        cases this
      exact up b o (hb _ (by simp)) (hb _ (by simp)) (hb _ (by simp)) (hb _ (by simp)) (F.keep b o e)
    · intro p hp
      rcases List.mem_cons.mp hp with rfl | hp
      · rw [← hacc]
        exact ⟨hS', (hn0 _ (Nat.le_refl _))⟩
      · rcases List.mem_append.mp hp with hp | hp
        · have hz := fun c hc => (hfr c hc).2.2 p hp
          exact ⟨up _ _ (hz z (by simp)) (hz TO (by simp)) (hz i1 (by simp)) (hz i2 (by simp)) (N p hp).1, (N p hp).2⟩
        · exact ⟨(hT0 p hp).2, hn0 _ (Nat.le_of_lt (hT0 p hp).1)⟩
  refine callType_codes (Q₁ := fun obj s₁ => obj = .ref s.heap.objs.size ∧ s₁ = { s with heap := s.heap.push { cls := .type "list", data := .seq #[] } }) PySem.F.called_list (PySem.F.typeCall_list_1 _) PySem.F.entry_list_init
    (code_list_new _ ⟨rfl, rfl⟩) fun obj s₁ h₁ => ?_
  obtain ⟨rfl, rfl⟩ := h₁
  refine ⟨⟨_, hS, rfl⟩, PySem.F.args_list_init_2 _ _, ?_⟩
  show wpAny _ _ (do let old ← Builtin.List.listItems (.ref s.heap.objs.size); Builtin.List.listUpdate (.ref s.heap.objs.size) (fun _ => #[]); letGo old.toList.reverse; Builtin.List.listExtendWith (.ref s.heap.objs.size) (.ref z) .none) _ _ _
  refine wpAny_bind ?_
  unfold Builtin.List.listItems
  refine wpAny_bind (wpAny_seqItems hS rfl (wpAny_pure ?_))
  show wpAny _ _ (updateSeq s.heap.objs.size (fun _ => #[]) >>= fun _ => letGo (#[] : Array Value).toList.reverse >>= fun _ => Builtin.List.listExtendWith (.ref s.heap.objs.size) (.ref z) .none) _ _ _
  refine wpAny_bind (wpAny_updateSeq hS rfl ?_)
  have hS₂ := Heap.get?_update_self (Obj.mapSeq (fun _ => (#[] : Array Value))) hS rfl
  have oth : ∀ b o, b ≠ s.heap.objs.size → s.heap.get? b = some o → ((s.heap.push { cls := .type "list", data := .seq #[] }).update s.heap.objs.size (Obj.mapSeq (fun _ => (#[] : Array Value)))).get? b = some o :=
    fun b o hb e => (Heap.get?_update_other _ _ (Ne.symm hb)).trans (Heap.get?_push_of_some _ e)
  refine wpAny_bind (wpAny_letGo ?_)
  have hz1 := oth _ _ (hd z (by simp)) hz0
  unfold Builtin.List.listExtendWith
  refine wpAny_bind (wpAny_typeOf (T := "zip") ⟨_, hz1, rfl⟩ ?_)
  have h1 : Builtin.List.listSameRef (.ref s.heap.objs.size) (.ref z) = false := by simp [Builtin.List.listSameRef, (hd z (by simp)).symm]
  have h2 : (Value.type "zip" == Value.type "list") = false := by decide
  have h3 : (Value.type "zip" == Value.type "tuple") = false := by decide
  simp only [h1, h2, h3, Bool.or_false, Bool.false_eq_true, if_false]
  refine wpAny_bind (wpAny_pyIter_zip hz1 ?_)
  refine wpAny_bind (wpAny_holding ?_)
  unfold Builtin.List.listLengthHint
  refine wpAny_bind (wpAny_specialOf (T := "zip") ⟨_, hz1, rfl⟩ zip_no_len ?_)
  show wpAny _ _ (specialOf (Value.ref z) (Str.ofString "__length_hint__") >>= _) _ _ _
  refine wpAny_bind (wpAny_specialOf (T := "zip") ⟨_, hz1, rfl⟩ zip_no_hint ?_)
  refine wpAny_pure ?_
  show wpAny _ _ (rule "list.extend.makes-room" >>= fun _ => Builtin.List.listTouch (.ref s.heap.objs.size) >>= fun _ =>
    again (.builtin "list.extend.loop" ⟨[.ref s.heap.objs.size, .ref z, .none], []⟩)) _ _ _
  refine wpAny_bind (wpAny_rule ?_)
  refine wpAny_bind ?_
  show wpAny _ _ (updateSeq s.heap.objs.size (·.push .none) >>= fun _ => updateSeq s.heap.objs.size (·.pop)) _ _ _
  refine wpAny_bind (wpAny_updateSeq hS₂ rfl ?_)
  have hS₃ := Heap.get?_update_self (Obj.mapSeq (·.push Value.none)) hS₂ rfl
  refine wpAny_updateSeq (hz := by seq_fits) hS₃ rfl ?_
  have hS₄ := Heap.get?_update_self (Obj.mapSeq (·.pop)) hS₃ rfl
  refine wpAny_pure ⟨plainId_quiet PySem.F.plain_extend_loop _, key _ _ (fun b o hb e => ?_) ?_ hS₄⟩
  · exact (Heap.get?_update_other _ _ (Ne.symm hb)).trans ((Heap.get?_update_other _ _ (Ne.symm hb)).trans (oth b o hb e))
  · rw [(Heap.SameBut.update ..).1, (Heap.SameBut.update ..).1, (Heap.SameBut.update ..).1, Heap.size_push]
end
end
section
/-- the target takes the item -/
noncomputable def GoOk (target : PySem.Expr) (v : Value) : Prop := (∃ x px, target = .Name x px) ∨ ((∃ elts k pos, target = .Tuple elts k pos) ∧ ∃ T, v = .ref T)
theorem GoOk.name {x : Str} {px : Pos} {v : Value} : GoOk (.Name x px) v := .inl ⟨x, px, rfl⟩
theorem GoOk.tuple {elts : List PySem.Expr} {k : Nat} {pos : Pos} {T : Addr} : GoOk (.Tuple elts k pos) (.ref T) := .inr ⟨⟨elts, k, pos, rfl⟩, T, rfl⟩
section
variable {prog : Program} {w : World} {A : Around} {s : Shared} {env : Env} {h₀ : Heap} {E : Value → Shared → Prop} {Q : Flow → Shared → Prop} {target : PySem.Expr} {body : List Stmt}
theorem go_list {I l : Addr} {i : Nat} {v : Value} {Q : Unit → Shared → Prop} (hit : s.heap.IsListIter I l i) (hg : GoOk target v) (hQ : Q () s) : wpAny (model prog w) A (letOwnedTupleGo target (.ref I) v) Q E s := by
  rcases hg with ⟨x, px, rfl⟩ | ⟨⟨elts, k, pos, rfl⟩, T, rfl⟩
  · exact wpAny_pure hQ
  · exact wpAny_letOwnedTupleGo_listiter hit hQ
theorem Steps.list (hh : A.handled = none) (I ax : Addr) (hne : ax ≠ I) (items : Array Value) (hg : ∀ (i : Nat) (v : Value), items[i]? = some v → GoOk target v) :
    Steps prog w A target I [I, ax] [I] items.size (fun i v _ => items[i]? = some v) (fun i h => h.IsListIter I ax i ∧ h.IsList ax items) where
  sub := (Walks.list (prog := prog) (w := w) hh I ax hne items).sub
  frame := (Walks.list (prog := prog) (w := w) hh I ax hne items).frame
  item := fun i s Q E hi st hQ => (Walks.list (prog := prog) (w := w) hh I ax hne items).item i s _ E hi st fun v h' tk hP hst hk => go_list hst.1 (hg i v hP) (hQ v h' tk hP hst hk)
  done := (Walks.list (prog := prog) (w := w) hh I ax hne items).done
theorem iter_list {σ : Type} {l : Addr} {vs : List Value} {nn : Nat} {m₀ : Str → Option Value} {all : List (Addr × Obj)} (Led : σ → List (Addr × Obj)) (cst : List (Addr × Obj)) (ps : σ → List (Str × Value)) (stored : List Str) (adr : List Addr) (P : Nat → List (Addr × Obj) → σ → Prop) (c₀ : σ)
    (hh : A.handled = none) (hl : (l, listOf vs.toArray nn) ∈ cst) (hg : ∀ v ∈ vs, GoOk target v) (F : Fr h₀ env.locals s.heap m₀) (N : News h₀ env.locals s.heap all) (hn : ∀ p ∈ Led c₀ ++ cst, p ∈ all)
    (hadr : ∀ c, (Led c).map (·.1) = adr) (hdis : ∀ p ∈ cst, ∀ a ∈ adr, p.1 ≠ a) (hk : ∀ p ∈ ps c₀, m₀ p.1 = some p.2) (hP : P 0 cst c₀) (hE : PassesOwn (model prog w) A env E)
    (turn : ∀ i v c S u h tk own, vs[i]? = some v → P i S c → (∀ p ∈ cst, p ∈ S) → (∀ p ∈ S ++ own, ∀ a ∈ adr, p.1 ≠ a) →
      Fr h₀ env.locals h (frm ps stored m₀ u c) → News h₀ env.locals h (Led c ++ (S ++ own)) →
      ∀ QL : Flow → Shared → Prop, (∀ f s', LPost h₀ env.locals Led ps stored m₀ (P (i + 1)) S own c { s with heap := h, toks := tk } Q f s' → QL f s') → wpAny (model prog w) A (assign target env v) (fun _ s₃ => wpAny (model prog w) A (execs body env) QL E s₃) E { s with heap := h, toks := tk })
    (done : ∀ c tl u h tk, P vs.length (cst ++ tl) c → (∀ q ∈ Led c ++ cst, ∀ p ∈ tl, q.1 < p.1) → Fr h₀ env.locals h (frm ps stored m₀ u c) → News h₀ env.locals h (Led c ++ (cst ++ tl)) → Q .next { s with heap := h, toks := tk }) :
    IterAt prog w A env target body Q E (.ref l) s := by
  unfold IterAt
  have N₁ : News h₀ env.locals s.heap (Led c₀ ++ cst) := nwX N hn
  have hol : s.heap.get? l = some (listOf vs.toArray nn) := (N₁ _ (List.mem_append_right _ hl)).1
  have hls : s.heap.IsList l vs.toArray := ⟨_, hol, rfl, nn, rfl⟩
  have hlt : l < s.heap.objs.size := Heap.lt_size hol
  have hne : l ≠ s.heap.objs.size := Nat.ne_of_lt hlt
  refine wpAny_pyIter_list hls ?_
  unfold ForAt
  have hsz : vs.toArray.size = vs.length := by simp
  have W := Steps.list (prog := prog) (w := w) (target := target) hh s.heap.objs.size l hne vs.toArray (fun i v hv => hg v (List.mem_of_getElem? (by simpa using hv)))
  rw [hsz] at W
  refine led_loop Led cst ps stored adr P c₀ W ?_ ⟨⟨_, Heap.get?_push_size _ rfl, rfl, rfl⟩, hls.at fun o e => Heap.get?_push_of_some _ e⟩ (F.push _) (fun p hp => ⟨Heap.get?_push_of_some _ (N₁ p hp).1, (N₁ p hp).2⟩) hadr hdis ?_ ?_ ?_ hk hP ?_ ?_
  · intro hm
    rcases List.mem_cons.mp hm with e | hm
    · exact absurd F.ns.lt (e ▸ Nat.lt_irrefl _)
    · exact (N₁ _ (List.mem_append_right _ hl)).2.1 ((List.mem_singleton.mp hm).symm)
  · intro b hb
    rw [List.mem_singleton.mp hb]
    exact ⟨next_is_new F, fun q hq => Heap.lt_size (N₁ q hq).1⟩
  · intro b hb hbw
    rcases List.mem_cons.mp hb with rfl | hb
    · exact absurd (List.mem_singleton.mpr rfl) hbw
    · rw [List.mem_singleton.mp hb]; exact .inl ⟨_, hl⟩
  · rintro i h ⟨⟨o, ho, _⟩, _⟩ b hb
    rw [List.mem_singleton.mp hb]; exact ⟨o, ho⟩
  · intro i v c S u h tk own hi hv hP' hcst hoff F' N'
    refine wpAny_mono (turn i v c S u h tk own (by simpa using hv) hP' hcst hoff F' N' _ (fun _ _ h9 => h9)) (fun _ s₃ h₃ => wpAny_mono h₃ (fun f s₄ h₄ => h₄) hE) hE
  · exact done
theorem iter_range {σ : Type} {r : Addr} {a₀ b₀ : Int} {t₀ u₀ v₀ : Tok} {n : Nat} {m₀ : Str → Option Value} {all : List (Addr × Obj)} (Led : σ → List (Addr × Obj)) (cst : List (Addr × Obj)) (ps : σ → List (Str × Value)) (stored : List Str) (adr : List Addr) (P : Nat → List (Addr × Obj) → σ → Prop) (c₀ : σ) {x : Str} {px : Pos}
    (hh : A.handled = none) (hr : IsRange s.heap r a₀ b₀ 1 t₀ u₀ v₀) (hsmall : Builtin.Range.small a₀ b₀ 1 = true) (hsz : Builtin.Range.rangeSize a₀ b₀ 1 = (n : Int)) (F : Fr h₀ env.locals s.heap m₀) (N : News h₀ env.locals s.heap all) (hn : ∀ p ∈ Led c₀ ++ cst, p ∈ all)
    (hadr : ∀ c, (Led c).map (·.1) = adr) (hdis : ∀ p ∈ cst, ∀ a ∈ adr, p.1 ≠ a) (hk : ∀ p ∈ ps c₀, m₀ p.1 = some p.2) (hP : P 0 cst c₀) (hE : PassesOwn (model prog w) A env E)
    (turn : ∀ i c S u h tk own t, i < n → P i S c → (∀ p ∈ cst, p ∈ S) → (∀ p ∈ S ++ own, ∀ a ∈ adr, p.1 ≠ a) →
      Fr h₀ env.locals h (frm ps stored m₀ u c) → News h₀ env.locals h (Led c ++ (S ++ own)) →
      ∀ QL : Flow → Shared → Prop, (∀ f s', LPost h₀ env.locals Led ps stored m₀ (P (i + 1)) S own c { s with heap := h, toks := tk } Q f s' → QL f s') → wpAny (model prog w) A (assign (.Name x px) env (.int (a₀ + (i : Int)) t)) (fun _ s₃ => wpAny (model prog w) A (execs body env) QL E s₃) E { s with heap := h, toks := tk })
    (done : ∀ c tl u h tk, P n (cst ++ tl) c → (∀ q ∈ Led c ++ cst, ∀ p ∈ tl, q.1 < p.1) → Fr h₀ env.locals h (frm ps stored m₀ u c) → News h₀ env.locals h (Led c ++ (cst ++ tl)) → Q .next { s with heap := h, toks := tk }) :
    IterAt prog w A env (.Name x px) body Q E (.ref r) s := by
  unfold IterAt
  have N₁ : News h₀ env.locals s.heap (Led c₀ ++ cst) := nwX N hn
  refine wpAny_pyIter_range hr hsmall ?_
  unfold ForAt
  have W : Steps prog w A (.Name x px) s.heap.objs.size [s.heap.objs.size] [s.heap.objs.size] n (fun i v _ => ∃ t, v = .int (a₀ + (i : Int)) t) (fun i h => IsRangeIter h s.heap.objs.size (a₀ + (i : Nat) * 1) ((n : Int) - (i : Nat)) 1) :=
    Steps.ofWalks (LCg.range_walks hh a₀ n) fun i s' v Q' E _ hq => wpAny_pure hq
  refine led_loop Led cst ps stored adr P c₀ W ?_ ?_ (F.push _) (fun p hp => ⟨Heap.get?_push_of_some _ (N₁ p hp).1, (N₁ p hp).2⟩) hadr hdis ?_ ?_ ?_ hk hP ?_ ?_
  · intro hm
    exact absurd F.ns.lt ((List.mem_singleton.mp hm) ▸ Nat.lt_irrefl _)
  · show IsRangeIter _ _ _ _ _
    rw [hsz]; simpa using Heap.get?_push_size _ rfl
  · intro b hb
    rw [List.mem_singleton.mp hb]
    exact ⟨next_is_new F, fun q hq => Heap.lt_size (N₁ q hq).1⟩
  · intro b hb hbw
    exact absurd hb hbw
  · intro i h st b hb
    rw [List.mem_singleton.mp hb]
    have st' : h.get? s.heap.objs.size = some _ := st
    exact ⟨_, st'⟩
  · rintro i v c S u h tk own hi ⟨t, rfl⟩ hP' hcst hoff F' N'
    refine wpAny_mono (turn i c S u h tk own t hi hP' hcst hoff F' N' _ (fun _ _ h9 => h9)) (fun _ s₃ h₃ => wpAny_mono h₃ (fun f s₄ h₄ => h₄) hE) hE
  · exact done
end
theorem lpost_next {σ : Type} {h₀ : Heap} {L : Addr} {Led : σ → List (Addr × Obj)} {ps : σ → List (Str × Value)} {stored : List Str} {m₀ : Str → Option Value} {P : List (Addr × Obj) → σ → Prop} {S own : List (Addr × Obj)} {c : σ} {s : Shared} {Q : Flow → Shared → Prop}
    {h' : Heap} {tk' : Nat} {m' : Str → Option Value} {nx : List (Addr × Obj)} (c' : σ) (add : List (Addr × Obj)) (F : Fr h₀ L h' m') (N : News h₀ L h' nx) (hin : ∀ p ∈ Led c' ++ (S ++ add), p ∈ nx) (hown : ∀ p ∈ own, p ∈ nx) (hord : ∀ q ∈ Led c ++ (S ++ own), ∀ p ∈ add, q.1 < p.1)
    (hps : ∀ p ∈ ps c', m' p.1 = some p.2) (hrest : ∀ z, (∀ p ∈ ps c', z ≠ p.1) → stored.contains z = false → m' z = m₀ z) (hP : P (S ++ add) c') :
    LPost h₀ L Led ps stored m₀ P S own c s Q .next { s with heap := h', toks := tk' } := ⟨h', tk', m', c', add, nx, rfl, F, N, hin, hown, hord, hps, hrest, hP⟩
theorem lpost_cont {σ : Type} {h₀ : Heap} {L : Addr} {Led : σ → List (Addr × Obj)} {ps : σ → List (Str × Value)} {stored : List Str} {m₀ : Str → Option Value} {P : List (Addr × Obj) → σ → Prop} {S own : List (Addr × Obj)} {c : σ} {s : Shared} {Q : Flow → Shared → Prop}
    {h' : Heap} {tk' : Nat} {m' : Str → Option Value} {nx : List (Addr × Obj)} (c' : σ) (add : List (Addr × Obj)) (F : Fr h₀ L h' m') (N : News h₀ L h' nx) (hin : ∀ p ∈ Led c' ++ (S ++ add), p ∈ nx) (hown : ∀ p ∈ own, p ∈ nx) (hord : ∀ q ∈ Led c ++ (S ++ own), ∀ p ∈ add, q.1 < p.1)
    (hps : ∀ p ∈ ps c', m' p.1 = some p.2) (hrest : ∀ z, (∀ p ∈ ps c', z ≠ p.1) → stored.contains z = false → m' z = m₀ z) (hP : P (S ++ add) c') :
    LPost h₀ L Led ps stored m₀ P S own c s Q .cont { s with heap := h', toks := tk' } := ⟨h', tk', m', c', add, nx, rfl, F, N, hin, hown, hord, hps, hrest, hP⟩
end
section
section
variable {prog : Program} {w : World} {A : Around} {s : Shared} {env : Env} {h₀ : Heap} {E : Value → Shared → Prop} {Q : Flow → Shared → Prop} {body : List Stmt}
theorem enum_list {σ : Type} {l : Addr} {vs : List Value} {nn : Nat} {m₀ : Str → Option Value} {all : List (Addr × Obj)} {elts : List PySem.Expr} {k : Nat} {pos : Pos} (Led : σ → List (Addr × Obj)) (cst : List (Addr × Obj)) (ps : σ → List (Str × Value)) (stored : List Str) (adr : List Addr) (P : Nat → List (Addr × Obj) → σ → Prop) (c₀ : σ)
    (hh : A.handled = none) (hl : (l, listOf vs.toArray nn) ∈ cst) (F : Fr h₀ env.locals s.heap m₀) (N : News h₀ env.locals s.heap all) (hn : ∀ p ∈ Led c₀ ++ cst, p ∈ all)
    (hadr : ∀ c, (Led c).map (·.1) = adr) (hdis : ∀ p ∈ cst, ∀ a ∈ adr, p.1 ≠ a) (hk : ∀ p ∈ ps c₀, m₀ p.1 = some p.2) (hP : P 0 cst c₀) (hE : PassesOwn (model prog w) A env E)
    (turn : ∀ (i : Nat) v c S u h tk own T t, vs[i]? = some v → IsTup h T #[.int (i : Int) t, v] → P i S c → (∀ p ∈ cst, p ∈ S) → (∀ p ∈ S ++ own, ∀ a ∈ adr, p.1 ≠ a) →
      Fr h₀ env.locals h (frm ps stored m₀ u c) → News h₀ env.locals h (Led c ++ (S ++ own)) →
      ∀ QL : Flow → Shared → Prop, (∀ f s', LPost h₀ env.locals Led ps stored m₀ (P (i + 1)) S own c { s with heap := h, toks := tk } Q f s' → QL f s') → wpAny (model prog w) A (assign (.Tuple elts k pos) env (.ref T)) (fun _ s₃ => wpAny (model prog w) A (execs body env) QL E s₃) E { s with heap := h, toks := tk })
    (done : ∀ c tl u h tk, P vs.length (cst ++ tl) c → (∀ q ∈ Led c ++ cst, ∀ p ∈ tl, q.1 < p.1) → Fr h₀ env.locals h (frm ps stored m₀ u c) → News h₀ env.locals h (Led c ++ (cst ++ tl)) → Q .next { s with heap := h, toks := tk }) :
    wpAny (model prog w) A (call (.type "enumerate") [.ref l]) (IterAt prog w A env (.Tuple elts k pos) body Q E) E s := by
  have N₁ : News h₀ env.locals s.heap (Led c₀ ++ cst) := nwX N hn
  have hol : s.heap.get? l = some (listOf vs.toArray nn) := (N₁ _ (List.mem_append_right _ hl)).1
  have hlt : l < s.heap.objs.size := Heap.lt_size hol
  have hLlt : env.locals < s.heap.objs.size := F.ns.lt
  have fresh₀ : ∀ a, s.heap.objs.size ≤ a → h₀.get? a = none := fun a ha => Heap.get?_none_of_le (Nat.le_trans (Nat.le_trans F.above (Nat.le_of_lt hLlt)) ha)
  refine call_enumerate_1 hol fun h' he hit hsz hkeep => ?_
  unfold IterAt
  refine wpAny_pyIter_enum he ?_
  unfold ForAt
  have hsz' : vs.toArray.size = vs.length := by simp
  have W := Steps.ofU (elts := elts) (k := k) (pos := pos) (WalksT.enumerate (prog := prog) (w := w) hh (s.heap.objs.size + 1) s.heap.objs.size l (Nat.succ_ne_self _) (Nat.ne_of_lt (Nat.lt_succ_of_lt hlt)) (Nat.ne_of_lt hlt) vs.toArray).toU
  rw [hsz'] at W
  refine led_loop (s := { s with heap := h' }) Led cst ps stored adr P c₀ W ?_ ⟨⟨_, he⟩, hit, ⟨_, hkeep _ _ hol, rfl, nn, rfl⟩⟩ (F.kept hkeep) (fun p hp => ⟨hkeep _ _ (N₁ p hp).1, (N₁ p hp).2⟩) hadr hdis ?_ ?_ ?_ hk hP ?_ ?_
  · intro hm
    rcases List.mem_cons.mp hm with e | hm
    · exact Nat.lt_irrefl _ (Nat.lt_of_lt_of_le (e ▸ hLlt) (Nat.le_succ _))
    · rcases List.mem_cons.mp hm with e | hm
      · exact absurd hLlt (e ▸ Nat.lt_irrefl _)
      · exact (N₁ _ (List.mem_append_right _ hl)).2.1 ((List.mem_singleton.mp hm).symm)
  · intro b hb
    rcases List.mem_cons.mp hb with rfl | hb
    · exact ⟨fresh₀ _ (Nat.le_succ _), fun q hq => Nat.lt_succ_of_lt (Heap.lt_size (N₁ q hq).1)⟩
    · rw [List.mem_singleton.mp hb]
      exact ⟨fresh₀ _ (Nat.le_refl _), fun q hq => Heap.lt_size (N₁ q hq).1⟩
  · intro b hb hbw
    rcases List.mem_cons.mp hb with rfl | hb
    · exact absurd (.head _) hbw
    · rcases List.mem_cons.mp hb with rfl | hb
      · exact absurd (.tail _ (.head _)) hbw
      · rw [List.mem_singleton.mp hb]; exact .inl ⟨_, hl⟩
  · rintro i h ⟨⟨old, he'⟩, ⟨o, ho, _⟩, _⟩ b hb
    rcases List.mem_cons.mp hb with rfl | hb
    · exact ⟨_, he'⟩
    · rw [List.mem_singleton.mp hb]; exact ⟨o, ho⟩
  · rintro i v c S u h tk own hi ⟨T, vals, rfl, ⟨t, x, hx, rfl⟩, hT⟩ hP' hcst hoff F' N'
    refine wpAny_mono (turn i x c S u h tk own T t (by simpa using hx) hT hP' hcst hoff F' N' _ (fun _ _ h9 => h9)) (fun _ s₃ h₃ => wpAny_mono h₃ (fun f s₄ h₄ => h₄) hE) hE
  · exact done
end
end
section
noncomputable def sideOf (c d : Int × Int) : Option SD := if c.2 = d.2 then none else if c.2 < d.2 then some ⟨c.1, c.2, d.1, d.2, 1⟩ else some ⟨d.1, d.2, c.1, c.2, -1⟩
noncomputable def SideOr (news : List (Addr × Obj)) (r : Value) : Option SD → Prop
  | none => r = .none
  | some sd => SideIn news r sd
theorem ord2 {news : List (Addr × Obj)} {d x : Addr} {o o' : Obj} (l1 : ∀ p ∈ news, p.1 < d) (l2 : d < x) : ∀ q ∈ news, ∀ p ∈ [(d, o), (x, o')], q.1 < p.1 := by
  intro q hq p hp
  rcases List.mem_cons.mp hp with rfl | hp
  · exact l1 q hq
  · rw [List.mem_singleton.mp hp]; exact Nat.lt_trans (l1 q hq) l2
theorem nw1 {h₀ h : Heap} {L : Addr} {a b : Addr × Obj} {news : List (Addr × Obj)} (N : News h₀ L h (a :: b :: news)) : News h₀ L h (news ++ [b, a]) := nwX N (by intro p hp; simp only [List.mem_append, List.mem_cons, List.not_mem_nil, or_false] at hp ⊢; grind)
set_option maxHeartbeats 4000000 in
theorem tel_side_between {one other : Value} {c d : Int × Int} :
    Tel2 180 16 128 [one, other] (fun news => DatIn news one (spD c) ∧ DatIn news other (spD d)) (fun _ tl r => SideOr tl r (sideOf c d)) := by
  k_with_none
  k_with "call builtin:len" => (k_here; (with_reducible show wpAny _ _ (call (Value.builtin "len") [Value.ref _]) _ _ _); k_dflt (refine' len_led (by k_asm) (by k_mem) (by ((try simp only [List.length_append, List.length_cons, List.length_nil]); omega)) ?_; k_whole))
  k_with "subscriptTail" => (k_here; (with_reducible show wpAny _ _ (subscriptTail _ _ (Value.ref _) (Value.int _ _)) _ _ _); k_dflt (refine' item_led (by k_asm) (by k_mem) (by omega) (by omega) (by with_reducible assumption) ?_ (by with_unfolding_all rfl); k_whole))
  intro prog w p loose mean mg mb dp un gd cn cs a ccd cl outer A₀ base h₀ L m news s Q E B F X N T hk hP hd hu hret
  obtain ⟨h1, h2⟩ := hP
  obtain ⟨a1, n1, t1, t2, rfl, m1⟩ := sp_inv h1
  obtain ⟨a2, n2, t3, t4, rfl, m2⟩ := sp_inv h2
  (refine wpAny_call ?_; k_dflt ktr_enter)
  k_steps
  · (refine' hret (_) ([]) _ _ ?fr1 (nwX ?nw1 ?sub1) ?ord1 ?out1; (case fr1 => k_asm); (case nw1 => k_asm); (case sub1 => ((try dsimp only); (repeat' (first | (refine List.forall_mem_append.mpr ⟨?_, ?_⟩) | (refine List.forall_mem_cons.mpr ⟨?_, ?_⟩) | exact List.forall_mem_nil _ | exact (fun p9 hp9 => by simp only [List.mem_append, List.mem_cons, hp9, true_or, or_true]) | k_mem)))); (case ord1 => ((try dsimp only); (try simp only [List.forall_mem_cons, List.forall_mem_append, List.cons_append, List.nil_append, List.not_mem_nil, false_implies, implies_true, and_true, forall_and, imp_and]); (repeat' (apply And.intro)); all_goals (first | assumption | (refine ltN ?_; omega) | exact (fun _ _ => List.forall_mem_nil _)))); (case out1 => (unfold sideOf; rw [if_pos (by assumption)]; exact rfl)))
  · refine hret _ _ _ _ (by k_asm) (nw1 (by k_asm)) ?_ ?_
    · exact ord2 (by assumption) (by assumption)
    · unfold sideOf; rw [if_neg (by assumption), if_pos (by assumption)]; exact ⟨_, _, _, _, _, _, _, _, _, _, _, _, _, _, _, _, _, rfl, by k_mem, by k_mem⟩
  · refine hret _ _ _ _ (by k_asm) (nw1 (by k_asm)) ?_ ?_
    · exact ord2 (by assumption) (by assumption)
    · unfold sideOf; rw [if_neg (by assumption), if_neg (by assumption)]; exact ⟨_, _, _, _, _, _, _, _, _, _, _, _, _, _, _, _, _, rfl, by k_mem, by k_mem⟩
theorem tel_side_none {one other : Value} {c d : Int × Int} (h : sideOf c d = none) :
    Tel2 180 16 128 [one, other] (fun news => DatIn news one (spD c) ∧ DatIn news other (spD d)) (fun _ tl r => r = .none) := by
  have := tel_side_between (one := one) (other := other) (c := c) (d := d)
  rw [h] at this
  exact this
theorem tel_side_some {one other : Value} {c d : Int × Int} {sd : SD} (h : sideOf c d = some sd) :
    Tel2 180 16 128 [one, other] (fun news => DatIn news one (spD c) ∧ DatIn news other (spD d)) (fun _ tl r => SideIn tl r sd) := by
  have := tel_side_between (one := one) (other := other) (c := c) (d := d)
  rw [h] at this
  exact this
noncomputable abbrev prD (p : (Int × Int) × (Int × Int)) : Dat := .tuple [spD p.1, spD p.2]
theorem pr_inv {news : List (Addr × Obj)} {v : Value} {p : (Int × Int) × (Int × Int)} (h : DatIn news v (prD p)) :
    ∃ a n v1 v2, v = .ref a ∧ (a, tupOf [v1, v2] n) ∈ news ∧ DatIn news v1 (spD p.1) ∧ DatIn news v2 (spD p.2) := by
  exact two_inv h
theorem zip_dat {news : List (Addr × Obj)} : ∀ {vs ws : List Value} {cs ds : List (Int × Int)} {T : List (Addr × Obj)}, DatAll news vs (cs.map spD) → DatAll news ws (ds.map spD) → T.map (·.2) = (vs.zip ws).map tp2 → (∀ p ∈ T, p ∈ news) →
    DatAll news (T.map (fun p : Addr × Obj => Value.ref p.1)) ((cs.zip ds).map prD) := by
  intro vs ws cs
  induction cs generalizing vs ws with
  | nil =>
    intro ds T h1 h2 hT hm
    cases h1
    simp at hT
    subst hT
    exact .nil
  | cons c cs ih =>
    intro ds T h1 h2 hT hm
    cases h1 with
    | cons h1 hr1 =>
      cases ds with
      | nil =>
        cases h2
        simp at hT
        subst hT
        exact .nil
      | cons d ds =>
        cases h2 with
        | cons h2 hr2 =>
          cases T with
          | nil => simp at hT
          | cons p T =>
            simp only [List.zip_cons_cons, List.map_cons, List.cons.injEq] at hT ⊢
            obtain ⟨hp, hT⟩ := hT
            refine .cons ?_ (ih hr1 hr2 hT fun p hp => hm p (.tail _ hp))
            refine .tuple (vs := [_, _]) (n := 0) ?_ (.cons h1 (.cons h2 .nil))
            have := hm p (.head _)
            obtain ⟨pa, po⟩ := p
            dsimp only at hp this
            subst hp
            exact this
noncomputable def cyc (cs : List (Int × Int)) : List ((Int × Int) × (Int × Int)) :=
  match cs with
  | [] => []
  | c :: _ => cs.zip (cs.drop 1) ++ [((cs.getLast?).getD c, c)]
noncomputable def sidesC (cs : List (Int × Int)) : List SD := (cyc cs).filterMap (fun p => sideOf p.1 p.2)
section
variable {prog : Program} {w : World} {A : Around} {E : Value → Shared → Prop} {s : Shared} {h₀ : Heap} {L : Addr} {m : Str → Option Value} {news : List (Addr × Obj)}
theorem len_ledT {l : Addr} {vs : List Value} {nn : Nat} {Q : Value → Shared → Prop} (N : News h₀ L s.heap news) (hl : (l, tupOf vs nn) ∈ news) (hf : vs.length < 1000000) (h : Q (.int (vs.length : Nat) (s.toks + 1)) { s with toks := s.toks + 1 + 1 }) :
    wpAny (model prog w) A (call (.builtin "len") [.ref l]) Q E s := by
  have hz : vs.toArray.size = vs.length := by simp
  refine len_tuple (items := vs.toArray) ⟨_, (N _ hl).1, rfl, nn, rfl⟩ (by omega) ?_
  rw [hz]; exact h
theorem item_ledM {value slice : PySem.Expr} {l : Addr} {vs : List Value} {nn : Nat} {u : Tok} {v : Value} {Q : Value → Shared → Prop} (N : News h₀ L s.heap news) (hl : (l, tupOf vs nn) ∈ news) (hn : 0 < vs.length ∧ vs.length < 1000) (hx : vs[vs.length - 1]? = some v) (h : Q v s)
    (hs : subscripted slice false (.ref l) (.int (-1) u) = operate [.ref l, .int (-1) u] (getItem (.ref l) (.int (-1) u))) :
    wpAny (model prog w) A (subscriptTail value slice (.ref l) (.int (-1) u)) Q E s :=
  item_tupleT (l := vs) (j := vs.length - 1) ⟨_, (N _ hl).1, rfl, nn, rfl⟩ (by decide) (by decide) (by unfold seqIndex?; simp; omega) hx h hs
theorem slice_led {value slice : PySem.Expr} {t : Addr} {vs : List Value} {nn : Nat} {u : Tok} {Q : Value → Shared → Prop}
    (F : Fr h₀ L s.heap m) (N : News h₀ L s.heap news) (ht : (t, tupOf vs nn) ∈ news) (hn : 1 ≤ vs.length ∧ vs.length < 1000)
    (h : ∀ a h', Fr h₀ L h' m → News h₀ L h' ((a, tupOf (vs.drop 1) 0) :: news) → (∀ q ∈ news, @LT.lt Nat _ q.1 a) → Q (.ref a) { s with heap := h' })
    (hs : subscripted slice false (.ref t) (.ref s.heap.objs.size) = operate [.ref s.heap.objs.size, .ref t] (getItem (.ref t) (.ref s.heap.objs.size)) := by with_unfolding_all rfl)
    (hg : ∀ r, letTemporaryGo value (.ref t) r = pure () := by intro _; with_unfolding_all rfl) :
    wpAny (model prog w) A (subscriptTail value slice (.ref t) (.ref s.heap.objs.size)) Q E { s with heap := s.heap.push { cls := .type "slice", data := .fields #[.int 1 u, .none, .none] } } :=
  slice_tuple_from (a := 1) (items := vs.toArray) F N ⟨_, (N _ ht).1, rfl, nn, rfl⟩ (Nat.le_refl _) (by simpa using hn.1) (fun h' F' N' => h _ h' F' N' fun q hq => Nat.lt_succ_of_lt (Heap.lt_size (N q hq).1)) hs hg (by rw [sizeLine_eq]; simp; omega)
end
set_option maxHeartbeats 4000000 in
theorem tel_soc {t : Addr} {vs : List Value} {nt : Nat} {sp : List (Int × Int)} (hn : 2 ≤ sp.length ∧ sp.length < 60) :
    Tel2 187 32 256 [.ref t, .bool true] (fun news => (t, tupOf vs nt) ∈ news ∧ DatAll news vs (sp.map spD))
      (fun news tl r => ∃ D out e, r = .ref D ∧ (D, listOf out.toArray e) ∈ tl ∧ All2 (SideIn tl) out (sidesC sp)) := by
  k_with_none
  k_with "call builtin:len" => (k_here; (with_reducible show wpAny _ _ (call (Value.builtin "len") [Value.ref _]) _ _ _); k_dflt (refine' len_led (by k_asm) (by k_mem) (by ((try simp only [List.length_append, List.length_cons, List.length_nil]); omega)) ?_; k_whole))
  k_with "subscriptTail" => (k_here; (with_reducible show wpAny _ _ (subscriptTail _ _ (Value.ref _) (Value.int _ _)) _ _ _); k_dflt (refine' item_led (by k_asm) (by k_mem) (by omega) (by omega) (by with_reducible assumption) ?_ (by with_unfolding_all rfl); k_whole))
  k_with "call ref" => (k_here; k_dflt (refine' Tel2.useR (by k_asm) (by k_asm) (by k_asm) (by k_asm) (by k_asm) (by first | exact rfl | assumption) (by (refine' And.intro (by (first | assumption | (refine' DatIn.mono ?_ (by assumption); (exact (fun p9 hp9 => by simp only [List.mem_append, List.mem_cons, hp9, true_or, or_true]))))) (by (first | assumption | (refine' DatIn.mono ?_ (by assumption); (exact (fun p9 hp9 => by simp only [List.mem_append, List.mem_cons, hp9, true_or, or_true]))))))) (tel_side_none (by assumption)) (by ktr_room) (by ktr_units) ?_); intro r9kw tl9kw h9kw tk9kw F9kw N9kw hl9kw ho9kw; (try simp only [List.cons_append, List.nil_append, List.append_assoc] at N9kw ho9kw); (try simp only [List.forall_mem_cons, List.forall_mem_append, List.cons_append, List.nil_append, List.not_mem_nil, false_implies, implies_true, and_true] at hl9kw); (repeat' (obtain ⟨_, hl9kw⟩ := hl9kw)); subst ho9kw; (try dsimp only); (try k_fold))
  k_with "call ref" => (k_here; k_dflt (refine' Tel2.useR (by k_asm) (by k_asm) (by k_asm) (by k_asm) (by k_asm) (by first | exact rfl | assumption) (by (refine' And.intro (by (first | assumption | (refine' DatIn.mono ?_ (by assumption); (exact (fun p9 hp9 => by simp only [List.mem_append, List.mem_cons, hp9, true_or, or_true]))))) (by (first | assumption | (refine' DatIn.mono ?_ (by assumption); (exact (fun p9 hp9 => by simp only [List.mem_append, List.mem_cons, hp9, true_or, or_true]))))))) (tel_side_some (by assumption)) (by ktr_room) (by ktr_units) ?_); intro r9kw tl9kw h9kw tk9kw F9kw N9kw hl9kw ho9kw; (try simp only [List.cons_append, List.nil_append, List.append_assoc] at N9kw ho9kw); (try simp only [List.forall_mem_cons, List.forall_mem_append, List.cons_append, List.nil_append, List.not_mem_nil, false_implies, implies_true, and_true] at hl9kw); (repeat' (obtain ⟨_, hl9kw⟩ := hl9kw)); obtain ⟨sx9kw, sdd9kw, g91kw, g92kw, g93kw, g94kw, g95kw, k91kw, k92kw, k93kw, k94kw, k95kw, t91kw, t92kw, t93kw, t94kw, t95kw, e9kw, sm91kw, sm92kw⟩ := ho9kw; subst e9kw; (try dsimp only); (try k_fold))
  k_with "exec For Tuple Name cons nil" => (k_here; k_dflt (refine' For_at ?_ (by intro _; with_unfolding_all rfl)))
  k_with "subscriptTail Name Slice ref ref" => (k_here; k_dflt (refine' slice_led (by k_asm) (by k_asm) (by k_mem) (by assumption) ?_); intro a9kw h9kw F9kw N9kw l9kw; k_whole; (try dsimp only))
  k_with "call builtin:len" => (k_here; k_dflt (refine' len_ledT (by k_asm) (by k_mem) (by omega) ?_); k_whole)
  k_with "subscriptTail" => (k_here; (with_reducible show wpAny _ _ (subscriptTail _ _ (Value.ref _) (Value.int 0 _)) _ _ _); k_dflt (refine' item_ledT (by k_asm) (by k_mem) (by decide) (by decide) (by with_reducible assumption) ?_ (by with_unfolding_all rfl); k_whole))
  k_with "subscriptTail" => (k_here; (with_reducible show wpAny _ _ (subscriptTail _ _ (Value.ref _) (Value.int (-1) _)) _ _ _); k_dflt (refine' item_ledM (by k_asm) (by k_mem) (by assumption) (by with_reducible assumption) ?_ (by with_unfolding_all rfl); k_whole))
  k_with "call type:zip" => (k_here; k_dflt (refine' zip_pair (by k_asm) (by k_asm) (by k_mem) (by k_mem) ?_); intro z9kw h9kw F9kw N9kw Z9kw; k_whole; (try dsimp only))
  k_with "call type:list" => (k_here; k_dflt (refine' list_zip (by exact rfl) (by k_asm) (by k_asm) (by assumption) (by assumption) (by assumption) (by assumption) ?_); intro l9kw out9kw n9kw T9kw h9kw F9kw N9kw e9kw T9ekw ol9kw o91kw o92kw o93kw; (try simp only [List.cons_append, List.nil_append, List.append_assoc] at N9kw); (try simp only [List.forall_mem_cons] at o91kw); (try simp only [List.forall_mem_cons] at o92kw); (try (obtain ⟨_, o91kw⟩ := o91kw)); (try (obtain ⟨_, o92kw⟩ := o92kw)); k_whole; (try dsimp only))
  k_with "call ref" => (k_here; (refine stopHere ?_))
  intro prog w p loose mean mg mb dp un gd cn cs a ccd cl outer A₀ base h₀ L m news s Q E B F X N T hk hP hd hu hret
  obtain ⟨ht, hvs⟩ := hP
  have hlen : vs.length = sp.length := by rw [DatAll.length hvs, List.length_map]
  have hn' : 1 ≤ vs.length ∧ vs.length < 1000 := by omega
  have hnl : 0 < vs.length ∧ vs.length < 1000 := by omega
  have hz1 : vs.drop 1 ≠ [] := fun e => by have := congrArg List.length e; rw [List.length_drop] at this; simp at this; omega
  have hz2 : vs.length = (vs.drop 1).length + 1 := by rw [List.length_drop]; omega
  have hz3 : (vs.drop 1).length ≤ 1000 := by rw [List.length_drop]; omega
  have h1n : 1 < (vs.length : Int) := by omega
  obtain ⟨v0, hv0⟩ : ∃ v, vs[((0 : Int)).toNat]? = some v := ⟨_, List.getElem?_eq_getElem (show 0 < vs.length by omega)⟩
  obtain ⟨vl, hvl⟩ : ∃ v, vs[vs.length - 1]? = some v := ⟨_, List.getElem?_eq_getElem (by omega)⟩
  (refine wpAny_call ?_; k_dflt ktr_enter)
  k_steps
  (have r9kw := trivial; have tl9kw := trivial; have h9kw := trivial; have tk9kw := trivial; have F9kw := trivial; have N9kw := trivial; have hl9kw := trivial; have ho9kw := trivial; have sx9kw := trivial; have sdd9kw := trivial; have g91kw := trivial; have g92kw := trivial; have g93kw := trivial; have g94kw := trivial; have g95kw := trivial; have k91kw := trivial; have k92kw := trivial; have k93kw := trivial; have k94kw := trivial; have k95kw := trivial; have t91kw := trivial; have t92kw := trivial; have t93kw := trivial; have t94kw := trivial; have t95kw := trivial; have e9kw := trivial; have sm91kw := trivial; have sm92kw := trivial; have a9kw := trivial; have l9kw := trivial; have z9kw := trivial; have Z9kw := trivial; have out9kw := trivial; have n9kw := trivial; have T9kw := trivial; have T9ekw := trivial; have ol9kw := trivial; have o91kw := trivial; have o92kw := trivial; have o93kw := trivial; rename_i g1 L1 hh0 FG1 B1 X1 T1 tk0 sl hh1 lsl z9 hh2 Z9 lP outs nP TT hh3 eo eT ol oz1 oa1 oa2 oa3 oa4 hh4 tk1 tk2 D1 hh5 od1 od2 od3 od4 hh6 tk3 lF hh7 of1 of2 of3 of4 of5 hh8 F1 N1; clear r9kw tl9kw h9kw tk9kw F9kw N9kw hl9kw ho9kw sx9kw sdd9kw g91kw g92kw g93kw g94kw g95kw k91kw k92kw k93kw k94kw k95kw t91kw t92kw t93kw t94kw t95kw e9kw sm91kw sm92kw a9kw l9kw z9kw Z9kw out9kw n9kw T9kw T9ekw ol9kw o91kw o92kw o93kw)
  simp only [List.push_toArray] at N1
  have hds : DatAll ((lP, listOf (outs ++ [Value.ref D1]).toArray (nP + 1)) :: (D1, tupOf [vl, v0] 0) :: (sl, tupOf (vs.drop 1) 0) :: (news ++ TT)) (outs ++ [Value.ref D1]) ((cyc sp).map prD) := by
    have hX : ∀ p ∈ news, p ∈ (lP, listOf (outs ++ [Value.ref D1]).toArray (nP + 1)) :: (D1, tupOf [vl, v0] 0) :: (sl, tupOf (vs.drop 1) 0) :: (news ++ TT) := fun p hp => by simp only [List.mem_append, List.mem_cons, hp, true_or, or_true]
    have hvs' := DatAll.mono hX hvs
    obtain ⟨c0, hc0, hI0⟩ := dat_of hvs' (i := 0) hv0
    obtain ⟨cl9, hcl, hIl⟩ := dat_of hvs' hvl
    have hcy : cyc sp = sp.zip (sp.drop 1) ++ [(cl9, c0)] := by
      unfold cyc
      cases sp with
      | nil => simp at hc0
      | cons c sp =>
        dsimp only
        have : c = c0 := by simpa using hc0
        subst this
        congr 2
        rw [List.getLast?_eq_getElem?, ← hlen, hcl]
        rfl
    rw [hcy, List.map_append]
    refine DatAll.append ?_ (.cons (.tuple (vs := [vl, v0]) (n := 0) (.tail _ (.head _)) (.cons hIl (.cons hI0 .nil))) .nil)
    have h9 := zip_dat hvs' (dat_drop hvs' 1) eT fun p hp => by simp only [List.mem_append, List.mem_cons, hp, true_or, or_true]
    rw [← eo] at h9
    exact h9
  have hcyl : (cyc sp).length ≤ 60 := by
    have h1 := DatAll.length hds
    rw [List.length_map, List.length_append, ol, List.length_singleton] at h1
    omega
  refine iter_list (σ := List Value × Nat × List (Addr × Obj)) (fun c => [(lF, listOf c.1.toArray c.2.1)]) ((lP, listOf (outs ++ [Value.ref D1]).toArray (nP + 1)) :: (D1, tupOf [vl, v0] 0) :: (sl, tupOf (vs.drop 1) 0) :: (news ++ TT)) (fun _ => []) ["one", "other", "side"] [lF]
    (fun i S c => (∀ p ∈ c.2.2, p ∈ S) ∧ All2 (SideIn c.2.2) c.1 (((cyc sp).take i).filterMap fun p => sideOf p.1 p.2) ∧ ∀ q ∈ news, ∀ p ∈ c.2.2, q.1 < p.1) ([], 0, []) rfl (.head _) (fun v hv => by
      obtain ⟨i, hi, e⟩ := List.getElem_of_mem hv
      obtain ⟨cr, _, hI⟩ := dat_of hds (i := i) (v := v) (by rw [List.getElem?_eq_getElem hi, e])
      obtain ⟨_, _, _, _, rfl, _⟩ := pr_inv hI
      exact GoOk.tuple) F1 N1 (fun p hp => by simp only [List.mem_append, List.mem_cons, List.not_mem_nil, or_false] at hp ⊢; grind) (fun _ => rfl) (fun p hp a ha => by
      rw [List.mem_singleton.mp ha]
      rcases List.mem_cons.mp hp with rfl | hp
      · exact Nat.ne_of_lt of2
      rcases List.mem_cons.mp hp with rfl | hp
      · exact Nat.ne_of_lt of1
      rcases List.mem_cons.mp hp with rfl | hp
      · exact Nat.ne_of_lt of3
      rcases List.mem_append.mp hp with hp | hp
      · exact Nat.ne_of_lt (of4 p hp)
      · exact Nat.ne_of_lt (of5 p hp)) (fun _ hp => nomatch hp) ⟨(fun _ hp => nomatch hp), .nil, (fun _ _ _ hp => nomatch hp)⟩ (by passes_own) ?_ ?_
  · intro i v c S u h tk own hv hP hcst hoff F' N' QL hQL
    obtain ⟨cv, cnn, XX⟩ := c
    obtain ⟨hXS, hC, hXo⟩ := hP
    dsimp only at hXS hC hXo F' N'
    obtain ⟨pr, hpr, hI⟩ := dat_of hds hv
    replace hI := DatIn.mono hcst hI
    obtain ⟨pa, pn, v1, v2, rfl, pm, hI1, hI2⟩ := pr_inv hI
    have hoffS : ∀ p ∈ S, p.1 ≠ lF := fun p hp => hoff p (List.mem_append_left _ hp) lF (.head _)
    have hoffO : ∀ p ∈ own, p.1 ≠ lF := fun p hp => hoff p (List.mem_append_right _ hp) lF (.head _)
    clear hoff
    have hnS : ∀ p ∈ news, p ∈ S := fun p hp => hcst p (by simp only [List.mem_append, List.mem_cons, hp, true_or, or_true])
    have hcl : cv.length ≤ 64 := by
      rw [hC.length]
      exact Nat.le_trans (List.length_filterMap_le _ _) (by rw [List.length_take]; omega)
    simp only [List.cons_append, List.nil_append] at N'
    have hsucc : ((cyc sp).take (i + 1)).filterMap (fun p => sideOf p.1 p.2) = ((cyc sp).take i).filterMap (fun p => sideOf p.1 p.2) ++ (sideOf pr.1 pr.2).toList := by
      rw [List.take_add_one, hpr, List.filterMap_append]
      cases hq : sideOf pr.1 pr.2 <;> simp [hq]
    cases hso : sideOf pr.1 pr.2 with
    | none =>
      k_steps
      refine StopAt.go ?_
      k_here
      refine' Tel2.use (tel_side_none ?h1) ?k1 ?k2 ?k3 ?k4 ?k5 ?kK ?kR ?kd ?ku ?_
      (case k1 => k_asm)
      (case k2 => k_asm)
      (case k3 => k_asm)
      (case k4 => k_asm)
      (case k5 => k_asm)
      (case kK => first | exact rfl | assumption)
      (case kd => ktr_room)
      (case ku => ktr_units)
      (case kR => (refine' And.intro ?ka ?kb; (case ka => (first | assumption | (refine' DatIn.mono ?kc ?kd; (case kd => assumption); (case kc => exact (fun p9 hp9 => by simp only [List.mem_append, List.mem_cons, hp9, true_or, or_true]))))); (case kb => (first | assumption | (refine' DatIn.mono ?kc ?kd; (case kd => assumption); (case kc => exact (fun p9 hp9 => by simp only [List.mem_append, List.mem_cons, hp9, true_or, or_true])))))))
      (case h1 => assumption)
      intro r9 tl9 h9 tk9 F9 N9 hl9 ho9
      (try simp only [List.cons_append, List.nil_append, List.append_assoc] at N9 ho9)
      (try simp only [List.forall_mem_cons, List.forall_mem_append, List.cons_append, List.nil_append, List.not_mem_nil, false_implies, implies_true, and_true] at hl9)
      (repeat' (obtain ⟨_, hl9⟩ := hl9))
      subst ho9
      (try dsimp only)
      k_steps
      (refine' hQL _ _ (lpost_next (cv, cnn, XX) (tl9) ?fr2 ?nw2 ?sub2 ?own2 ?ord2 ?ps2 ?rest2 ?P2); (case fr2 => k_asm); (case nw2 => k_asm); (case sub2 => ((try dsimp only); (repeat' (first | (refine List.forall_mem_append.mpr ⟨?_, ?_⟩) | (refine List.forall_mem_cons.mpr ⟨?_, ?_⟩) | exact List.forall_mem_nil _ | exact (fun p9 hp9 => by simp only [List.mem_append, List.mem_cons, hp9, true_or, or_true]) | k_mem)))); (case own2 => ((try dsimp only); (repeat' (first | (refine List.forall_mem_append.mpr ⟨?_, ?_⟩) | (refine List.forall_mem_cons.mpr ⟨?_, ?_⟩) | exact List.forall_mem_nil _ | exact (fun p9 hp9 => by simp only [List.mem_append, List.mem_cons, hp9, true_or, or_true]) | k_mem)))); (case ord2 => ((try dsimp only); (try simp only [List.forall_mem_cons, List.forall_mem_append, List.cons_append, List.nil_append, List.not_mem_nil, false_implies, implies_true, and_true, forall_and, imp_and]); (repeat' (apply And.intro)); all_goals (first | assumption | (refine ltN ?_; omega) | exact (fun _ _ => List.forall_mem_nil _)))); (case ps2 => ((try dsimp only); (repeat' (first | exact List.forall_mem_nil _ | (refine List.forall_mem_cons.mpr ⟨?_, ?_⟩) | rfl | (with_unfolding_all rfl))))); (case rest2 => (intro z9 h8 h9; (try simp only [List.forall_mem_cons, List.not_mem_nil, false_implies, implies_true, and_true, ne_eq] at h8); simp only [List.contains_cons, List.contains_nil, Bool.or_false, Bool.or_eq_false_iff, beq_eq_false_iff_ne, ne_eq] at h9; simp [frm, kstB, h8, h9])); (case P2 => (
              refine ⟨fun p hp => List.mem_append_left _ (hXS p hp), ?_, hXo⟩
              dsimp only
              rw [hsucc, hso]; simpa using hC)))
    | some sd =>
      k_steps
      refine StopAt.go ?_
      k_here
      refine' Tel2.use (tel_side_some ?h1) ?k1 ?k2 ?k3 ?k4 ?k5 ?kK ?kR ?kd ?ku ?_
      (case k1 => k_asm)
      (case k2 => k_asm)
      (case k3 => k_asm)
      (case k4 => k_asm)
      (case k5 => k_asm)
      (case kK => first | exact rfl | assumption)
      (case kd => ktr_room)
      (case ku => ktr_units)
      (case kR => (refine' And.intro ?ka ?kb; (case ka => (first | assumption | (refine' DatIn.mono ?kc ?kd; (case kd => assumption); (case kc => exact (fun p9 hp9 => by simp only [List.mem_append, List.mem_cons, hp9, true_or, or_true]))))); (case kb => (first | assumption | (refine' DatIn.mono ?kc ?kd; (case kd => assumption); (case kc => exact (fun p9 hp9 => by simp only [List.mem_append, List.mem_cons, hp9, true_or, or_true])))))))
      (case h1 => assumption)
      intro r9 tl9 h9 tk9 F9 N9 hl9 ho9
      (try simp only [List.cons_append, List.nil_append, List.append_assoc] at N9 ho9)
      (try simp only [List.forall_mem_cons, List.forall_mem_append, List.cons_append, List.nil_append, List.not_mem_nil, false_implies, implies_true, and_true] at hl9)
      (repeat' (obtain ⟨_, hl9⟩ := hl9))
      obtain ⟨sx9, sdd9, g91, g92, g93, g94, g95, k91, k92, k93, k94, k95, t91, t92, t93, t94, t95, e9, sm91, sm92⟩ := ho9
      subst e9
      (try dsimp only); (try k_fold)
      k_steps
      rename News _ _ _ _ => N4
      simp only [List.push_toArray] at N4
      (refine' hQL _ _ (lpost_next (cv ++ [.ref sx9], cnn + 1, XX ++ tl9) (tl9) ?fr3 ?nw3 ?sub3 ?own3 ?ord3 ?ps3 ?rest3 ?P3); (case fr3 => k_asm); (case nw3 => k_asm); (case sub3 => ((try dsimp only); (repeat' (first | (refine List.forall_mem_append.mpr ⟨?_, ?_⟩) | (refine List.forall_mem_cons.mpr ⟨?_, ?_⟩) | exact List.forall_mem_nil _ | exact (fun p9 hp9 => by simp only [List.mem_append, List.mem_cons, hp9, true_or, or_true]) | k_mem)))); (case own3 => ((try dsimp only); (repeat' (first | (refine List.forall_mem_append.mpr ⟨?_, ?_⟩) | (refine List.forall_mem_cons.mpr ⟨?_, ?_⟩) | exact List.forall_mem_nil _ | exact (fun p9 hp9 => by simp only [List.mem_append, List.mem_cons, hp9, true_or, or_true]) | k_mem)))); (case ord3 => ((try dsimp only); (try simp only [List.forall_mem_cons, List.forall_mem_append, List.cons_append, List.nil_append, List.not_mem_nil, false_implies, implies_true, and_true, forall_and, imp_and]); (repeat' (apply And.intro)); all_goals (first | assumption | (refine ltN ?_; omega) | exact (fun _ _ => List.forall_mem_nil _)))); (case ps3 => ((try dsimp only); (repeat' (first | exact List.forall_mem_nil _ | (refine List.forall_mem_cons.mpr ⟨?_, ?_⟩) | rfl | (with_unfolding_all rfl))))); (case rest3 => (intro z9 h8 h9; (try simp only [List.forall_mem_cons, List.not_mem_nil, false_implies, implies_true, and_true, ne_eq] at h8); simp only [List.contains_cons, List.contains_nil, Bool.or_false, Bool.or_eq_false_iff, beq_eq_false_iff_ne, ne_eq] at h9; simp [frm, kstB, h8, h9])); (case P3 => (
              refine ⟨fun p hp => ?_, ?_, ?_⟩
              · rcases List.mem_append.mp hp with hp | hp
                · exact List.mem_append_left _ (hXS p hp)
                · exact List.mem_append_right _ hp
              · dsimp only
                rw [hsucc, hso]
                refine All2.append (All2.mono (fun _ _ h9 => h9.mono fun p hp => List.mem_append_left _ hp) hC) (.cons ⟨_, _, _, _, _, _, _, _, _, _, _, _, _, _, _, _, _, rfl, List.mem_append_right _ sm91, List.mem_append_right _ sm92⟩ .nil)
              · intro q hq p hp
                rcases List.mem_append.mp hp with hp | hp
                · exact hXo q hq p hp
                · exact (by assumption : ∀ x ∈ S, ∀ p ∈ tl9, x.1 < p.1) q (hnS q hq) p hp)))
  · intro c tl u h tk hP hord F' N'
    obtain ⟨cv, cnn, XX⟩ := c
    obtain ⟨hXS, hC, hXo⟩ := hP
    dsimp only at hXS hC hXo F' N' hord
    rw [DatAll.length hds, List.length_map, List.take_length] at hC
    simp only [List.cons_append, List.nil_append] at N'
    k_steps
    refine' hret _ ((lF, listOf cv.toArray cnn) :: XX) _ _ ?fr (nwX ?nw ?sub) ?ord ?out
    (case fr => k_asm)
    (case nw => k_asm)
    (case sub =>
      intro p hp
      simp only [List.mem_append, List.mem_cons] at hp ⊢
      rcases hp with hp | hp | hp
      · simp only [hp, true_or, or_true]
      · simp only [hp, true_or, or_true]
      · have h9 := hXS p hp
        simp only [List.mem_append, List.mem_cons] at h9
        grind)
    (case ord =>
      intro q hq p hp
      rcases List.mem_cons.mp hp with rfl | hp
      · exact of4 q hq
      · exact hXo q hq p hp)
    (case out => exact ⟨lF, cv, cnn, rfl, .head _, All2.mono (fun _ _ h9 => h9.mono fun p hp => .tail _ hp) hC⟩)
end
section
noncomputable abbrev coD (c : List (Int × Int) × Bool) : Dat := .tuple [.tuple (c.1.map spD), .bool c.2]
theorem co_inv {news : List (Addr × Obj)} {v : Value} {c : List (Int × Int) × Bool} (h : DatIn news v (coD c)) :
    ∃ a n t k vs, v = .ref a ∧ (a, tupOf [.ref t, .bool c.2] n) ∈ news ∧ (t, tupOf vs k) ∈ news ∧ DatAll news vs (c.1.map spD) := by
  obtain ⟨a, n, v1, v2, rfl, hm, h1, h2⟩ := two_inv h
  obtain ⟨t, k, vs, rfl, hm1, hr⟩ := tup_inv h1
  cases bool_inv h2
  exact ⟨a, n, t, k, vs, rfl, hm, hm1, hr⟩
section
variable {prog : Program} {w : World} {A : Around} {E : Value → Shared → Prop} {s : Shared} {h₀ : Heap} {L : Addr} {m : Str → Option Value} {rest : List (Addr × Obj)}
theorem extend_led {D b : Addr} {vs ws : List Value} {n n2 : Nat} {Q : Value → Shared → Prop} (F : Fr h₀ L s.heap m) (N : News h₀ L s.heap ((D, listOf vs.toArray n) :: rest)) (hd : ∀ p ∈ rest, p.1 ≠ D) (hb : (b, listOf ws.toArray n2) ∈ rest)
    (hz : vs.length < 1000 ∧ ws.length < 1000) (h : ∀ h' n', Fr h₀ L h' m → News h₀ L h' ((D, listOf (vs ++ ws).toArray n') :: rest) → Q .none { s with heap := h' }) : wpAny (model prog w) A (call (.builtin "list.extend") [.ref D, .ref b]) Q E s := by
  have ht : ¬(!vs.toArray.isEmpty && Builtin.List.listTooLong (vs.toArray.size + ws.toArray.size)) = true := by
    simp [Builtin.List.listTooLong, sizeLine_eq]; omega
  cases ws with
  | nil =>
    refine kxn_extend (n := n) F N (List.mem_cons_of_mem _ hb) rfl (.head hd) ht (by rw [sizeLine_eq]; simp; omega) (by rw [sizeLine_eq]; simp; omega) fun h' F' N' => h h' n F' ?_
    rw [List.append_nil]; exact N'
  | cons w0 ws =>
    exact kl_extend (n := n) (l := vs ++ w0 :: ws) F N (List.mem_cons_of_mem _ hb) (by simp) (by simp) (.head hd) ht (by rw [sizeLine_eq]; simp; omega) (by rw [sizeLine_eq]; simp at hz ⊢; omega) fun h' F' N' => h h' (n + 1) F' N'
end
theorem cyc_len (cs : List (Int × Int)) : (cyc cs).length = cs.length := by
  cases cs with
  | nil => rfl
  | cons c cs => simp [cyc]
theorem sidesC_len (cs : List (Int × Int)) : (sidesC cs).length ≤ cs.length := by
  unfold sidesC
  exact Nat.le_trans (List.length_filterMap_le _ _) (Nat.le_of_eq (cyc_len cs))
noncomputable abbrev CoT := List (Int × Int) × Bool
noncomputable def sidesOf (cs : List CoT) : List SD := cs.flatMap (fun c => sidesC c.1)
theorem sidesOf_len : ∀ (cs : List CoT), (∀ c ∈ cs, c.1.length ≤ 6) → (sidesOf cs).length ≤ 6 * cs.length
  | [], _ => by simp [sidesOf]
  | c :: cs, h => by
    have h1 := sidesOf_len cs fun c hc => h c (.tail _ hc)
    have h2 := sidesC_len c.1
    have h3 := h c (.head _)
    simp only [sidesOf, List.flatMap_cons, List.length_append, List.length_cons] at h1 ⊢
    omega
theorem sidesOf_succ {cs : List CoT} {i : Nat} {c : CoT} (h : cs[i]? = some c) : sidesOf (cs.take (i + 1)) = sidesOf (cs.take i) ++ sidesC c.1 := by
  unfold sidesOf
  rw [List.take_add_one, h, List.flatMap_append]
  simp
set_option maxHeartbeats 4000000 in
theorem tel_sides_of {l : Addr} {vs : List Value} {nn : Nat} {cts : List CoT} (hc : ∀ c ∈ cts, 2 ≤ c.1.length ∧ c.1.length ≤ 6) (hn : cts.length ≤ 4) :
    Tel 195 64 512 [.ref l] (fun news => (l, listOf vs.toArray nn) ∈ news ∧ DatAll news vs (cts.map coD))
      (fun news r => ∃ D out e, r = .ref D ∧ (D, listOf (List.toArray out) e) ∈ news ∧ All2 (SideIn news) out (sidesOf cts)) := by
  k_with_none
  k_with "call builtin:len" => (k_here; (with_reducible show wpAny _ _ (call (Value.builtin "len") [Value.ref _]) _ _ _); k_dflt (refine' len_led (by k_asm) (by k_mem) (by ((try simp only [List.length_append, List.length_cons, List.length_nil]); omega)) ?_; k_whole))
  k_with "subscriptTail" => (k_here; (with_reducible show wpAny _ _ (subscriptTail _ _ (Value.ref _) (Value.int _ _)) _ _ _); k_dflt (refine' item_led (by k_asm) (by k_mem) (by omega) (by omega) (by with_reducible assumption) ?_ (by with_unfolding_all rfl); k_whole))
  k_with "call ref" => (k_here; k_dflt (refine' Tel2.useR (by k_asm) (by k_asm) (by k_asm) (by k_asm) (by k_asm) (by first | exact rfl | assumption) (by (refine' And.intro (by k_mem) (by (refine' DatAll.mono ?_ (by assumption); (exact (fun p9 hp9 => by simp only [List.mem_append, List.mem_cons, hp9, true_or, or_true])))))) (tel_soc (by assumption)) (by ktr_room) (by ktr_units) ?_); intro r9kw tl9kw h9kw tk9kw F9kw N9kw hl9kw ho9kw; (try simp only [List.cons_append, List.nil_append, List.append_assoc] at N9kw ho9kw); (try simp only [List.forall_mem_cons, List.forall_mem_append, List.cons_append, List.nil_append, List.not_mem_nil, false_implies, implies_true, and_true] at hl9kw); (repeat' (obtain ⟨_, hl9kw⟩ := hl9kw)); obtain ⟨D9kw, out9kw, e9kw, er9kw, hm9kw, ha9kw⟩ := ho9kw; subst er9kw; (try dsimp only); (try k_fold))
  k_with "exec For Tuple Name cons nil" => (k_here; k_dflt (refine' For_at ?_ (by intro _; with_unfolding_all rfl)))
  k_with "call builtin:list.extend" => (k_here; (refine stopHere ?_))
  intro prog w p loose mean mg mb dp un gd cn cs a ccd cl outer A₀ base h₀ L m news s Q E B F X N T hk hP hd hu hret
  obtain ⟨hl, hvs⟩ := hP
  (refine wpAny_call ?_; k_dflt (refine' code_def ?k1 ?k2 ?k3 ?k4 ?k5 ?kA ?kF ?kK ?k6 ?k7 ?k8 ?k9 ?kB ?_ ?c2 ?c3 ?c4 ?c5; (case kA => exact rfl); (case kF => exact rfl); (case kK => assumption); (case k1 => k_asm); (case k2 => k_asm); (case k3 => k_asm); (case k4 => k_asm); (case k5 => k_asm); (case k6 => k_is); (case k7 => k_is); (case k8 => ktr_room); (case k9 => (refine' kp_binds ?kx ?ke; (case kx => k_in); (case ke => exact fun _ => rfl))); (case c5 => decide); (case kB => exact locs rfl); (case c2 => exact rfl); (case c3 => exact rfl); (case c4 => exact rfl); k_whole; intro g' L' h' FG' F' N' B' X' T'; (try dsimp only); (try k_fold)))
  k_steps
  (have r9kw := trivial; have tl9kw := trivial; have h9kw := trivial; have tk9kw := trivial; have F9kw := trivial; have N9kw := trivial; have hl9kw := trivial; have ho9kw := trivial; have D9kw := trivial; have out9kw := trivial; have e9kw := trivial; have er9kw := trivial; have hm9kw := trivial; have ha9kw := trivial; rename_i lF hh1 l1 hh2 F1 N1; clear r9kw tl9kw h9kw tk9kw F9kw N9kw hl9kw ho9kw D9kw out9kw e9kw er9kw hm9kw ha9kw)
  refine iter_list (σ := List Value × Nat) (fun c => [(lF, listOf c.1.toArray c.2)]) news (fun _ => []) ["spots", "is_closed"] [lF]
    (fun i S c => All2 (SideIn S) c.1 (sidesOf (cts.take i))) ([], 0) rfl hl (fun v hv => by
      obtain ⟨i, hi, e⟩ := List.getElem_of_mem hv
      obtain ⟨cr, _, hI⟩ := dat_of hvs (i := i) (v := v) (by rw [List.getElem?_eq_getElem hi, e])
      obtain ⟨_, _, _, _, _, rfl, _⟩ := co_inv hI
      exact GoOk.tuple) F1 N1 (fun p hp => hp) (fun _ => rfl) (fun p hp a ha => by
      rw [List.mem_singleton.mp ha]; exact Nat.ne_of_lt (l1 p hp)) (fun _ hp => nomatch hp) .nil (by passes_own) ?_ ?_
  · intro i v c S u h tk own hv hP hcst hoff F' N' QL hQL
    obtain ⟨cv, cnn⟩ := c
    dsimp only at hP F' N'
    obtain ⟨co, hco, hI⟩ := dat_of hvs hv
    have hsz := hc co (List.mem_of_getElem? hco)
    have hsz' : 2 ≤ co.1.length ∧ co.1.length < 60 := by omega
    replace hI := DatIn.mono hcst hI
    obtain ⟨ca, cn9, t9, k9, tv, rfl, pm, pm1, hI1⟩ := co_inv hI
    have hoffS : ∀ p ∈ S, p.1 ≠ lF := fun p hp => hoff p (List.mem_append_left _ hp) lF (.head _)
    have hoffO : ∀ p ∈ own, p.1 ≠ lF := fun p hp => hoff p (List.mem_append_right _ hp) lF (.head _)
    clear hoff
    have hcl : cv.length ≤ 24 := by
      rw [hP.length]
      exact Nat.le_trans (sidesOf_len _ fun c h => (hc c (List.mem_of_mem_take h)).2) (by rw [List.length_take]; omega)
    simp only [List.cons_append, List.nil_append] at N'
    k_steps
    (have r9kw := trivial; have tl9kw := trivial; have h9kw := trivial; have tk9kw := trivial; have F9kw := trivial; have N9kw := trivial; have hl9kw := trivial; have ho9kw := trivial; have D9kw := trivial; have out9kw := trivial; have e9kw := trivial; have er9kw := trivial; have hm9kw := trivial; have ha9kw := trivial; rename_i tl9 h9 tk9 F9 N9 hb1 hb2 hb3 D9 out9 e9 hm9 ha9; clear r9kw tl9kw h9kw tk9kw F9kw N9kw hl9kw ho9kw D9kw out9kw e9kw er9kw hm9kw ha9kw)
    have hol : out9.length ≤ 6 := by rw [ha9.length]; exact Nat.le_trans (sidesC_len _) hsz.2
    refine StopAt.go ?_
    k_here
    refine extend_led F9 N9 (fun p hp => ?_) (List.mem_append_right _ (List.mem_append_right _ hm9)) (by omega) fun h8 n8 F8 N8 => ?_
    · rcases List.mem_append.mp hp with hp | hp
      · exact hoffS p hp
      · rcases List.mem_append.mp hp with hp | hp
        · exact hoffO p hp
        · exact Nat.ne_of_gt (hb1 p hp)
    k_steps
    (refine' hQL _ _ (lpost_next (cv ++ out9, n8) (tl9) ?fr1 ?nw1 ?sub1 ?own1 ?ord1 ?ps1 ?rest1 ?P1); (case fr1 => k_asm); (case nw1 => k_asm); (case sub1 => ((try dsimp only); (repeat' (first | (refine List.forall_mem_append.mpr ⟨?_, ?_⟩) | (refine List.forall_mem_cons.mpr ⟨?_, ?_⟩) | exact List.forall_mem_nil _ | exact (fun p9 hp9 => by simp only [List.mem_append, List.mem_cons, hp9, true_or, or_true]) | k_mem)))); (case own1 => ((try dsimp only); (repeat' (first | (refine List.forall_mem_append.mpr ⟨?_, ?_⟩) | (refine List.forall_mem_cons.mpr ⟨?_, ?_⟩) | exact List.forall_mem_nil _ | exact (fun p9 hp9 => by simp only [List.mem_append, List.mem_cons, hp9, true_or, or_true]) | k_mem)))); (case ord1 => ((try dsimp only); (try simp only [List.forall_mem_cons, List.forall_mem_append, List.cons_append, List.nil_append, List.not_mem_nil, false_implies, implies_true, and_true, forall_and, imp_and]); (repeat' (apply And.intro)); all_goals (first | assumption | (refine ltN ?_; omega) | exact (fun _ _ => List.forall_mem_nil _)))); (case ps1 => ((try dsimp only); (repeat' (first | exact List.forall_mem_nil _ | (refine List.forall_mem_cons.mpr ⟨?_, ?_⟩) | rfl | (with_unfolding_all rfl))))); (case rest1 => (intro z9 h8 h9; (try simp only [List.forall_mem_cons, List.not_mem_nil, false_implies, implies_true, and_true, ne_eq] at h8); simp only [List.contains_cons, List.contains_nil, Bool.or_false, Bool.or_eq_false_iff, beq_eq_false_iff_ne, ne_eq] at h9; simp [frm, kstB, h8, h9])); (case P1 => (
          dsimp only
          rw [sidesOf_succ hco]
          exact All2.append (All2.mono (fun _ _ h9 => h9.mono fun p hp => List.mem_append_left _ hp) hP) (All2.mono (fun _ _ h9 => h9.mono fun p hp => List.mem_append_right _ hp) ha9))))
  · intro c tl u h tk hP hord F' N'
    obtain ⟨cv, cnn⟩ := c
    dsimp only at hP F' N' hord
    have hlen : vs.length = cts.length := by rw [DatAll.length hvs, List.length_map]
    rw [hlen, List.take_length] at hP
    simp only [List.cons_append, List.nil_append] at N'
    simp only [List.forall_mem_cons, List.forall_mem_append, List.cons_append, List.nil_append] at hord
    obtain ⟨ho1, ho2⟩ := hord
    k_steps
    (refine' hret (_) ((lF, listOf cv.toArray cnn) :: tl) _ _ ?fr2 (nwX ?nw2 ?sub2) ?ord2 ?out2; (case fr2 => k_asm); (case nw2 => k_asm); (case sub2 => ((try dsimp only); (repeat' (first | (refine List.forall_mem_append.mpr ⟨?_, ?_⟩) | (refine List.forall_mem_cons.mpr ⟨?_, ?_⟩) | exact List.forall_mem_nil _ | exact (fun p9 hp9 => by simp only [List.mem_append, List.mem_cons, hp9, true_or, or_true]) | k_mem)))); (case ord2 => ((try dsimp only); (try simp only [List.forall_mem_cons, List.forall_mem_append, List.cons_append, List.nil_append, List.not_mem_nil, false_implies, implies_true, and_true, forall_and, imp_and]); (repeat' (apply And.intro)); all_goals (first | assumption | (refine ltN ?_; omega) | exact (fun _ _ => List.forall_mem_nil _)))); (case out2 => (exact ⟨lF, cv, cnn, rfl, List.mem_append_right _ (.head _), All2.mono (fun _ _ h9 => h9.mono fun p hp => by simp only [List.mem_append, List.mem_cons] at hp ⊢; grind) hP⟩)))
end
section
section
open LCg
variable {prog : Program} {w : World} {A : Around} {s : Shared} {h₀ : Heap} {L : Addr} {m : Str → Option Value} {env : Env} {elt ct : PySem.Expr} {x x₂ : Str} {scope : Scope} {cl : List (Str × Addr)} {S : List (Addr × Obj) → Prop} {P : Nat → Value → Prop} {Fin : List Value → List (Addr × Obj) → Prop} {n : Nat}
theorem comp_inv (Inv : Nat → List Value → List (Addr × Obj) → Prop) {news : List (Addr × Obj)} (h0 : Inv 0 [] news)
    (step : ∀ i ys nw v I oI C oC D m₂ h tk (E' : Value → Shared → Prop), i < n → Inv i ys nw → P i v → NsObj oC m₂ → m₂ x = some v → Fr h₀ L h m → News h₀ L h ((I, oI) :: (C, oC) :: (D, lst ys) :: nw) → (∀ p ∈ nw, p.1 ≠ I ∧ p.1 ≠ C ∧ p.1 ≠ D) → ((@Ne Nat I C) ∧ (@Ne Nat I D) ∧ (@Ne Nat C D)) →
      wpAny (model prog w) A (eval elt (compEnvC scope cl C env)) (CompEnd h₀ L m { s with heap := h, toks := tk } I oI C oC D (lst ys) S (fun y nw' => Inv (i + 1) (ys ++ [y]) nw')) E' { s with heap := h, toks := tk })
    (done : ∀ ys nw, Inv n ys nw → Fin ys nw) : CompRest prog w A h₀ L m env elt x scope cl s S P Fin n 0 [] news := by
  have key : ∀ k i ys nw, i + k = n → Inv i ys nw → CompRest prog w A h₀ L m env elt x scope cl s S P Fin k i ys nw := by
    intro k
    induction k with
    | zero => intro i ys nw e hI; exact done ys nw (by rw [← e]; exact hI)
    | succ k ih =>
      intro i ys nw e hI
      intro v I oI C oC D m₂ h tk E' hv hC hx F N off ne
      refine wpAny_mono (step i ys nw v I oI C oC D m₂ h tk E' (by omega) hI hv hC hx F N off.mem ne) (fun y s' hy => ?_) fun _ _ q => q
      obtain ⟨h', tk', nw', e', F', N', off', hS, r⟩ := hy
      exact ⟨h', tk', nw', e', F', N', off', hS, ih (i + 1) _ _ (by omega) r⟩
  exact key n 0 [] news (by omega) h0
open LCp in
theorem comp_invP (Inv : Nat → List Value → List (Addr × Obj) → Prop) {news : List (Addr × Obj)} (h0 : Inv 0 [] news)
    (step : ∀ i ys nw v, i < n → Inv i ys nw → P i v → ∃ (t : Addr) (ot : Obj) (v₁ v₂ : Value) (nt : Nat), v = .ref t ∧ (t, ot) ∈ nw ∧ ot.cls = .type "tuple" ∧ ot.data = .seq #[v₁, v₂] nt ∧
      ∀ I oI C oC D m₂ h tk (E' : Value → Shared → Prop), NsObj oC m₂ → m₂ x = some v₁ → m₂ x₂ = some v₂ → Fr h₀ L h m → News h₀ L h ((I, oI) :: (C, oC) :: (D, lst ys) :: nw) → (∀ p ∈ nw, p.1 ≠ I ∧ p.1 ≠ C ∧ p.1 ≠ D) → ((@Ne Nat I C) ∧ (@Ne Nat I D) ∧ (@Ne Nat C D)) →
      wpAny (model prog w) A (eval elt (compEnvC scope cl C env)) (CompEnd h₀ L m { s with heap := h, toks := tk } I oI C oC D (lst ys) S (fun y nw' => Inv (i + 1) (ys ++ [y]) nw')) E' { s with heap := h, toks := tk })
    (done : ∀ ys nw, Inv n ys nw → Fin ys nw) : CompRestP prog w A h₀ L m env elt x x₂ scope cl s S P Fin n 0 [] news := by
  have key : ∀ k i ys nw, i + k = n → Inv i ys nw → CompRestP prog w A h₀ L m env elt x x₂ scope cl s S P Fin k i ys nw := by
    intro k
    induction k with
    | zero => intro i ys nw e hI; exact done ys nw (by rw [← e]; exact hI)
    | succ k ih =>
      intro i ys nw e hI
      intro v hv
      obtain ⟨t, ot, v₁, v₂, nt, e1, hm, hc, hd, r⟩ := step i ys nw v (by omega) hI hv
      refine ⟨t, ot, v₁, v₂, nt, e1, hm, hc, hd, ?_⟩
      intro I oI C oC D m₂ h tk E' hC hx hx2 F N off ne
      refine wpAny_mono (r I oI C oC D m₂ h tk E' hC hx hx2 F N off.mem ne) (fun y s' hy => ?_) fun _ _ q => q
      obtain ⟨h', tk', nw', e', F', N', off', hS, r⟩ := hy
      exact ⟨h', tk', nw', e', F', N', off', hS, ih (i + 1) _ _ (by omega) r⟩
  exact key n 0 [] news (by omega) h0
open LCt in
theorem comp_invT (Inv : Nat → List Value → List (Addr × Obj) → Prop) {news : List (Addr × Obj)} (h0 : Inv 0 [] news)
    (step : ∀ i ys nw v I oI C oC D m₂ h tk (E' : Value → Shared → Prop), i < n → Inv i ys nw → P i v → NsObj oC m₂ → m₂ x = some v → Fr h₀ L h m → News h₀ L h ((I, oI) :: (C, oC) :: (D, lst ys) :: nw) → (∀ p ∈ nw, p.1 ≠ I ∧ p.1 ≠ C ∧ p.1 ≠ D) → ((@Ne Nat I C) ∧ (@Ne Nat I D) ∧ (@Ne Nat C D)) →
      wpAny (model prog w) A (isTrue ct (compEnvC scope cl C env) (eval ct (compEnvC scope cl C env))) (fun ok s' => if ok = true then
        wpAny (model prog w) A (eval elt (compEnvC scope cl C env)) (CompEnd h₀ L m { s with heap := h, toks := tk } I oI C oC D (lst ys) S (fun y nw' => Inv (i + 1) (ys ++ [y]) nw')) E' s'
        else CompEnd h₀ L m { s with heap := h, toks := tk } I oI C oC D (lst ys) S (fun _ nw' => Inv (i + 1) ys nw') Value.none s') E' { s with heap := h, toks := tk })
    (done : ∀ ys nw, Inv n ys nw → Fin ys nw) : CompRestT prog w A h₀ L m env ct elt x scope cl s S P Fin n 0 [] news := by
  have key : ∀ k i ys nw, i + k = n → Inv i ys nw → CompRestT prog w A h₀ L m env ct elt x scope cl s S P Fin k i ys nw := by
    intro k
    induction k with
    | zero => intro i ys nw e hI; exact done ys nw (by rw [← e]; exact hI)
    | succ k ih =>
      intro i ys nw e hI
      intro v I oI C oC D m₂ h tk E' hv hC hx F N off ne
      refine wpAny_mono (step i ys nw v I oI C oC D m₂ h tk E' (by omega) hI hv hC hx F N off.mem ne) (fun ok s' hy => ?_) fun _ _ q => q
      cases ok with
      | true =>
        simp only [if_true] at hy ⊢
        refine wpAny_mono hy (fun y s' hy => ?_) fun _ _ q => q
        obtain ⟨h', tk', nw', e', F', N', off', hS, r⟩ := hy
        exact ⟨h', tk', nw', e', F', N', off', hS, ih (i + 1) _ _ (by omega) r⟩
      | false =>
        simp only [Bool.false_eq_true, if_false] at hy ⊢
        obtain ⟨h', tk', nw', e', F', N', off', hS, r⟩ := hy
        exact ⟨h', tk', nw', e', F', N', off', hS, ih (i + 1) _ _ (by omega) r⟩
  exact key n 0 [] news (by omega) h0
end
theorem range_size {n : Nat} : Builtin.Range.rangeSize 0 (n : Int) 1 = (n : Int) := by
  unfold Builtin.Range.rangeSize
  simp
  omega
theorem range_small {n : Nat} (h : n ≤ 1000) : Builtin.Range.small 0 (n : Int) 1 = true := by
  simp [Builtin.Range.small, range_size, Builtin.Range.rangeFitsLong]
  omega
end
section
theorem cyc_get {sp : List (Int × Int)} {i : Nat} (h : i < sp.length) : ∃ c d, sp[i]? = some c ∧ sp[((0 + (i : Int) + 1).fmod (sp.length : Int)).toNat]? = some d ∧ (cyc sp)[i]? = some (c, d) := by
  have hm : ((0 + (i : Int) + 1).fmod (sp.length : Int)).toNat = if i + 1 = sp.length then 0 else i + 1 := by
    rw [Int.zero_add, Int.fmod_eq_emod_of_nonneg _ (by omega)]
    by_cases h1 : i + 1 = sp.length
    · rw [if_pos h1, show ((i : Int) + 1) = (sp.length : Int) by omega, Int.emod_self]; rfl
    · rw [if_neg h1, Int.emod_eq_of_lt (by omega) (by omega)]; omega
  cases sp with
  | nil => simp at h
  | cons c0 cs =>
    rw [hm]
    refine ⟨(c0 :: cs)[i], (c0 :: cs)[if i + 1 = (c0 :: cs).length then 0 else i + 1]'(by split <;> (first | (simp; done) | omega)), List.getElem?_eq_getElem h, List.getElem?_eq_getElem _, ?_⟩
    unfold cyc
    dsimp only
    by_cases h1 : i + 1 = (c0 :: cs).length
    · have hz : ((c0 :: cs).zip ((c0 :: cs).drop 1)).length = i := by simp at h1 ⊢; omega
      rw [List.getElem?_append_right (by omega), hz, Nat.sub_self]
      simp only [if_pos h1, List.getElem?_cons_zero]
      congr 2
      rw [List.getLast?_eq_getElem?]
      simp only [show (c0 :: cs).length - 1 = i by omega]
      rw [List.getElem?_eq_getElem h]; rfl
    · have hz : i < ((c0 :: cs).zip ((c0 :: cs).drop 1)).length := by simp at h h1 ⊢; omega
      rw [List.getElem?_append_left hz, List.getElem?_eq_getElem hz, List.getElem_zip]
      have h2 : ¬ i = cs.length := fun e => h1 (by simp [e])
      simp [h2]
noncomputable def pairsOf (cs : List CoT) : List ((Int × Int) × (Int × Int)) := cs.flatMap (fun c => cyc c.1)
theorem pairsOf_len : ∀ (cs : List CoT), (∀ c ∈ cs, c.1.length ≤ 6) → (pairsOf cs).length ≤ 6 * cs.length
  | [], _ => by simp [pairsOf]
  | c :: cs, h => by
    have h1 := pairsOf_len cs fun c hc => h c (.tail _ hc)
    have h2 := cyc_len c.1
    have h3 := h c (.head _)
    simp only [pairsOf, List.flatMap_cons, List.length_append, List.length_cons] at h1 ⊢
    omega
theorem pairsOf_succ {cs : List CoT} {i : Nat} {c : CoT} (h : cs[i]? = some c) : pairsOf (cs.take (i + 1)) = pairsOf (cs.take i) ++ cyc c.1 := by
  unfold pairsOf
  rw [List.take_add_one, h, List.flatMap_append]
  simp
section
variable {prog : Program} {w : World} {A : Around} {E : Value → Shared → Prop} {s : Shared} {h₀ : Heap} {L : Addr} {m : Str → Option Value} {news : List (Addr × Obj)}
theorem add_led {l b : Addr} {vs ws : List Value} {n k : Nat} {Q : Value → Shared → Prop} (F : Fr h₀ L s.heap m) (N : News h₀ L s.heap news) (hl : (l, listOf vs.toArray n) ∈ news) (hb : (b, listOf ws.toArray k) ∈ news) (hz : vs.length + ws.length ≤ 1000)
    (h : ∀ D h', Fr h₀ L h' m → News h₀ L h' ((D, listOf (vs ++ ws).toArray 0) :: news) → (∀ p ∈ news, @LT.lt Nat _ p.1 D) → Q (.ref D) { s with heap := h' }) : wpAny (model prog w) A (binaryOp .Add (.ref l) (.ref b)) Q E s :=
  add_lists F N (News.isList N hl) (News.isList N hb) (fun h' F' N' => h _ h' F' N' fun p hp => Heap.lt_size (N p hp).1) (by rw [sizeLine_eq]; omega)
end
set_option maxHeartbeats 4000000 in
theorem tel_pairs {l : Addr} {vs : List Value} {nn : Nat} {cts : List CoT} (hc : ∀ c ∈ cts, 3 ≤ c.1.length ∧ c.1.length ≤ 5) (hn : cts.length ≤ 2) :
    Tel 226 32 256 [.ref l] (fun news => (l, listOf vs.toArray nn) ∈ news ∧ DatAll news vs (cts.map coD))
      (fun news r => ∃ (D : Addr) (out : List Value) (e : Nat), r = .ref D ∧ (D, listOf (List.toArray out) e) ∈ news ∧ DatAll news out ((pairsOf cts).map prD)) := by
  k_with_none
  k_with "call builtin:len" => (k_here; (with_reducible show wpAny _ _ (call (Value.builtin "len") [Value.ref _]) _ _ _); k_dflt (refine' len_led (by k_asm) (by k_mem) (by ((try simp only [List.length_append, List.length_cons, List.length_nil]); omega)) ?_; k_whole))
  k_with "subscriptTail" => (k_here; (with_reducible show wpAny _ _ (subscriptTail _ _ (Value.ref _) (Value.int _ _)) _ _ _); k_dflt (refine' item_led (by k_asm) (by k_mem) (by omega) (by omega) (by with_reducible assumption) ?_ (by with_unfolding_all rfl); k_whole))
  k_with "exec For Tuple Name cons nil" => (k_here; k_dflt (refine' For_at ?_ (by intro _; with_unfolding_all rfl)))
  k_with "CompSrc" => (k_here; (refine stopHere ?_))
  k_with "CompEnd" => (k_here; (refine stopHere ?_))
  k_with "call builtin:len" => (k_here; k_dflt (refine' len_ledT (by k_asm) (by k_mem) (by omega) ?_); k_whole)
  k_with "subscriptTail" => (k_here; (with_reducible show wpAny _ _ (subscriptTail _ _ (Value.ref _) (Value.int _ _)) _ _ _); k_dflt (refine' item_ledT (by k_asm) (by k_mem) (by omega) (by omega) (by with_reducible assumption) ?_ (by with_unfolding_all rfl); k_whole))
  k_with "binaryOp Add ref ref" => (k_here; k_dflt (refine' add_led (by k_asm) (by k_asm) (by k_mem) (by k_mem) (by omega) ?_; k_whole); intro D'kw h'kw F'kw N'kw l1kw; (try k_lt l1kw); (try k_sweep))
  intro prog w p loose mean mg mb dp un gd cn cs a ccd cl outer A₀ base h₀ L m news s Q E B F X N T hk hP hd hu hret
  obtain ⟨hl, hvs⟩ := hP
  (refine wpAny_call ?_; k_dflt (refine' code_defC ?k1 ?k2 ?k3 ?k4 ?k5 ?kA ?kF ?kK ?k6 ?k7 ?k8 ?k9 ?kB ?kD ?_ ?c2 ?c3 ?c4; (case kA => exact rfl); (case kF => exact rfl); (case kK => assumption); (case k1 => k_asm); (case k2 => k_asm); (case k3 => k_asm); (case k4 => k_asm); (case k5 => k_asm); (case k6 => k_is); (case k7 => k_is); (case k8 => ktr_room); (case k9 => exact BindsTo.of_eq rfl); (case kB => exact rfl); (case kD => decide +kernel); (case c2 => exact rfl); (case c3 => exact rfl); (case c4 => exact rfl); k_whole; intro g' L' h' tk' cells' FG' F' N' Y' B' X' T' l1; (try k_lt l1); k_cells Y'; (try simp only [List.cons_append, List.nil_append] at N'); (try dsimp only); (try k_fold)))
  k_steps
  (have D'kw := trivial; have h'kw := trivial; have F'kw := trivial; have N'kw := trivial; have l1kw := trivial; rename_i oc hdc lF hh1 ll1 ll2 hh2 F1 N1; clear D'kw h'kw F'kw N'kw l1kw)
  refine iter_list (σ := Obj × Addr × List Value × Nat) (fun c => [(L' + 1, c.1)]) ((lF, listOf [].toArray 0) :: news) (fun c => [("found", .ref c.2.1)]) ["is_closed"] [L' + 1]
    (fun i S c => (∃ w, c.1.data = .cell w) ∧ (c.2.1, listOf c.2.2.1.toArray c.2.2.2) ∈ S ∧ DatAll S c.2.2.1 ((pairsOf (cts.take i)).map prD)) (oc, lF, [], 0) rfl (.tail _ hl) (fun v hv => by
      obtain ⟨i, hi, e⟩ := List.getElem_of_mem hv
      obtain ⟨cr, _, hI⟩ := dat_of hvs (i := i) (v := v) (by rw [List.getElem?_eq_getElem hi, e])
      obtain ⟨_, _, _, _, _, rfl, _⟩ := co_inv hI
      exact GoOk.tuple) F1 N1 ?sub (fun _ => rfl) ?dis (by ((try dsimp only); (repeat' (first | exact List.forall_mem_nil _ | (refine List.forall_mem_cons.mpr ⟨?_, ?_⟩) | rfl | (with_unfolding_all rfl))))) ⟨⟨_, hdc⟩, .head _, .nil⟩ (by passes_own) ?turn ?done
  (case sub => intro p hp; simp only [List.mem_cons, List.mem_append, List.not_mem_nil, or_false] at hp ⊢; grind)
  (case dis =>
    intro p hp a ha
    rw [List.mem_singleton.mp ha]
    rcases List.mem_cons.mp hp with rfl | hp
    · exact Nat.ne_of_gt ll1
    · exact Nat.ne_of_lt (Nat.lt_succ_of_lt (l1 p hp)))
  (case done =>
    intro c tl u h tk hP hord F' N'
    obtain ⟨ob, lc, cv, cnn⟩ := c
    obtain ⟨⟨wc, hwc⟩, hlc, hD⟩ := hP
    dsimp only at hwc hlc hD F' N' hord
    rw [show vs.length = cts.length by rw [DatAll.length hvs, List.length_map], List.take_length] at hD
    simp only [List.cons_append, List.nil_append] at N'
    simp only [List.forall_mem_cons, List.forall_mem_append, List.cons_append, List.nil_append] at hord
    obtain ⟨hr1, hr2, hr3⟩ := hord
    k_steps
    refine hret _ ((lF, listOf [].toArray 0) :: tl) _ _ (by k_asm) (nwX (by k_asm) ?sub) ?ord ⟨lc, cv, cnn, rfl, ?mem, DatAll.mono ?dat hD⟩
    (case sub => intro p hp; simp only [List.mem_cons, List.mem_append] at hp ⊢; grind)
    (case ord =>
      intro q hq
      simp only [List.forall_mem_cons]
      exact ⟨ll2 q hq, hr3 q hq⟩)
    (case mem => simp only [List.mem_cons, List.mem_append, List.cons_append] at hlc ⊢; grind)
    (case dat => intro p hp; simp only [List.mem_cons, List.mem_append, List.cons_append] at hp ⊢; grind))
  intro i v c S u h tk own hv hP hcst hoff F' N' QL hQL
  obtain ⟨ob, lc, cv, cnn⟩ := c
  obtain ⟨⟨wc, hwc⟩, hlc, hD⟩ := hP
  dsimp only at hwc hlc hD F' N'
  obtain ⟨co, hco, hI⟩ := dat_of hvs hv
  have hsz := hc co (List.mem_of_getElem? hco)
  replace hI := DatIn.mono (fun p hp => hcst p (.tail _ hp)) hI
  obtain ⟨ca, cn9, t9, k9, tv, rfl, pm, pm1, hI1⟩ := co_inv hI
  have htl : tv.length = co.1.length := by rw [DatAll.length hI1, List.length_map]
  have hoffS : ∀ p ∈ S, p.1 ≠ L' + 1 := fun p hp => hoff p (List.mem_append_left _ hp) (L' + 1) (.head _)
  have hoffO : ∀ p ∈ own, p.1 ≠ L' + 1 := fun p hp => hoff p (List.mem_append_right _ hp) (L' + 1) (.head _)
  clear hoff
  have hcl : cv.length ≤ 24 := by
    rw [DatAll.length hD, List.length_map]
    exact Nat.le_trans (pairsOf_len _ fun c h => by have := hc c (List.mem_of_mem_take h); omega) (by rw [List.length_take]; omega)
  simp only [List.cons_append, List.nil_append] at N'
  k_steps
  (have D'kw := trivial; have h'kw := trivial; have F'kw := trivial; have N'kw := trivial; have l1kw := trivial; rename_i hA FA NA hB oS hdS hC FB NB hE tkE tE uE vE hrE FE NE hkE; clear D'kw h'kw F'kw N'kw l1kw)
  refine StopAt.go ?_
  refine LCg.CompSrc.range (n := tv.length) rfl FE NE hrE (range_small (by omega)) range_size (by rw [sizeLine_eq]; omega) ?_
  intro g1
  refine comp_inv (fun i ys nw => ∃ tl'', nw = (L' + 1, oS) :: (S ++ (own ++ tl'')) ∧ (∀ q ∈ (L' + 1, oS) :: (S ++ own), ∀ p ∈ tl'', q.1 < p.1) ∧ DatAll (S ++ tl'') ys (((cyc co.1).take i).map prD)) ⟨[], by simp, (fun _ _ _ h => nomatch h), .nil⟩ ?step ?done
  (case step =>
    intro i3 ys nw v I oI C oC D m₂ h3 tk3 E' hi3 hI hv hC hx F3 N3 off ne3
    obtain ⟨tl4, rfl, hord4, hD4⟩ := hI
    simp only [List.forall_mem_cons, List.forall_mem_append] at off hord4
    obtain ⟨ofc, ofS, ofO, of4⟩ := off
    obtain ⟨ord1, ord2, ord3⟩ := hord4
    obtain ⟨neIC, neID, neCD⟩ := ne3
    obtain ⟨ofc1, ofc2, ofc3⟩ := ofc
    obtain ⟨tv9, rfl⟩ := hv
    obtain ⟨c, d, hc1, hd1, hcd⟩ := cyc_get (sp := co.1) (i := i3) (by omega)
    rw [← htl] at hd1
    obtain ⟨v1, hv1, hI1a⟩ := dat_at hI1 hc1
    obtain ⟨v2, hv2, hI2a⟩ := dat_at hI1 hd1
    have hv1' : tv[(0 + (i3 : Int)).toNat]? = some v1 := by rw [show (0 + (i3 : Int)).toNat = i3 by omega]; exact hv1
    have hfm : 0 ≤ (0 + (i3 : Int) + 1).fmod (tv.length : Int) ∧ (0 + (i3 : Int) + 1).fmod (tv.length : Int) < (tv.length : Int) := ⟨Int.fmod_nonneg_of_pos _ (by omega), Int.fmod_lt_of_pos _ (by omega)⟩
    k_steps
    (have D'kw := trivial; have h'kw := trivial; have F'kw := trivial; have N'kw := trivial; have l1kw := trivial; rename_i T1 hT FT NT lt1 lt2 lt3 lt4 lt5 lt6 lt7; clear D'kw h'kw F'kw N'kw l1kw)
    refine StopAt.go ?_
    refine LCg.CompEnd.intro FT NT ((L' + 1, oS) :: (S ++ (own ++ (tl4 ++ [(T1, tupOf [v1, v2] 0)])))) ?sub (LCg.Off3.of ?off) trivial ⟨tl4 ++ [(T1, tupOf [v1, v2] 0)], rfl, ?ord, ?dat⟩
    (case sub => intro p hp; simp only [List.mem_cons, List.mem_append, List.not_mem_nil, or_false] at hp ⊢; grind)
    (case off =>
      simp only [List.forall_mem_cons, List.forall_mem_append, List.not_mem_nil, false_implies, implies_true, and_true]
      exact ⟨⟨ofc1, ofc2, ofc3⟩, ofS, ofO, of4, Nat.ne_of_gt lt1, Nat.ne_of_gt lt2, Nat.ne_of_gt lt3⟩)
    (case ord =>
      simp only [List.forall_mem_cons, List.forall_mem_append, List.not_mem_nil, false_implies, implies_true, and_true]
      exact ⟨⟨ord1, lt4⟩, fun x hx => ⟨ord2 x hx, lt5 x hx⟩, fun x hx => ⟨ord3 x hx, lt6 x hx⟩⟩)
    (case dat =>
      rw [List.take_add_one, hcd, Option.toList_some, List.map_append]
      refine DatAll.append (DatAll.mono (fun p hp => ?_) hD4) (.one (.tuple (vs := [v1, v2]) (n := 0) ?_ (.cons (DatIn.mono (fun p hp => List.mem_append_left _ hp) hI1a) (.cons (DatIn.mono (fun p hp => List.mem_append_left _ hp) hI2a) .nil))))
      · simp only [List.mem_append] at hp ⊢; grind
      · simp))
  intro ys nw hI
  obtain ⟨tl4, rfl, hord4, hD4⟩ := hI
  simp only [List.forall_mem_cons, List.forall_mem_append] at hord4
  obtain ⟨ord1, ord2, ord3⟩ := hord4
  rw [htl, ← cyc_len, List.take_length] at hD4
  have hyl : ys.length ≤ 5 := by rw [DatAll.length hD4, List.length_map, cyc_len]; omega
  k_steps
  (have D'kw := trivial; have h'kw := trivial; have F'kw := trivial; have N'kw := trivial; have l1kw := trivial; rename_i Dc hc1 tkc o1c D2 hc2 lu1 lu2 lu3 lu4 lu5 hc3 FZ NZ; clear D'kw h'kw F'kw N'kw l1kw)
  (refine' hQL _ _ (lpost_next (oS, D2, cv ++ ys, 0) ((D2, listOf (cv ++ ys).toArray 0) :: tl4) ?fr1 ?nw1 ?sub1 ?own1 ?ord1 ?ps1 ?rest1 ?P1); (case fr1 => k_asm); (case nw1 => k_asm); (case sub1 => ((try dsimp only); (repeat' (first | (refine List.forall_mem_append.mpr ⟨?_, ?_⟩) | (refine List.forall_mem_cons.mpr ⟨?_, ?_⟩) | exact List.forall_mem_nil _ | exact (fun p9 hp9 => by simp only [List.mem_append, List.mem_cons, hp9, true_or, or_true]) | k_mem)))); (case own1 => ((try dsimp only); (repeat' (first | (refine List.forall_mem_append.mpr ⟨?_, ?_⟩) | (refine List.forall_mem_cons.mpr ⟨?_, ?_⟩) | exact List.forall_mem_nil _ | exact (fun p9 hp9 => by simp only [List.mem_append, List.mem_cons, hp9, true_or, or_true]) | k_mem)))); (case ord1 => ((try dsimp only); (try simp only [List.forall_mem_cons, List.forall_mem_append, List.cons_append, List.nil_append, List.not_mem_nil, false_implies, implies_true, and_true, forall_and, imp_and]); (repeat' (apply And.intro)); all_goals (first | assumption | (refine ltN ?_; omega) | exact (fun _ _ => List.forall_mem_nil _)))); (case ps1 => ((try dsimp only); (repeat' (first | exact List.forall_mem_nil _ | (refine List.forall_mem_cons.mpr ⟨?_, ?_⟩) | rfl | (with_unfolding_all rfl))))); (case rest1 => (intro z9 h8 h9; (try simp only [List.forall_mem_cons, List.not_mem_nil, false_implies, implies_true, and_true, ne_eq] at h8); simp only [List.contains_cons, List.contains_nil, Bool.or_false, Bool.or_eq_false_iff, beq_eq_false_iff_ne, ne_eq] at h9; simp [frm, kstB, h8, h9])); (case P1 => (
      refine ⟨⟨_, hdS⟩, List.mem_append_right _ (.head _), ?_⟩
      dsimp only
      rw [pairsOf_succ hco, List.map_append]
      exact DatAll.append (DatAll.mono (fun p hp => List.mem_append_left _ hp) hD) (DatAll.mono (fun p hp => by simp only [List.mem_append, List.mem_cons] at hp ⊢; grind) hD4))))
end
section
noncomputable abbrev Pr := (Int × Int) × (Int × Int)
noncomputable def PrOk (p : Pr) : Prop := -100 ≤ p.1.1 ∧ p.1.1 ≤ 100 ∧ -100 ≤ p.1.2 ∧ p.1.2 ≤ 100 ∧ -100 ≤ p.2.1 ∧ p.2.1 ≤ 100 ∧ -100 ≤ p.2.2 ∧ p.2.2 ≤ 100
noncomputable def lwTerm (x y : Int) (p : Pr) : Int :=
  if p.1.2 < p.2.2 then (if p.1.2 ≤ y ∧ y < p.2.2 ∧ (p.2.1 - p.1.1) * (y - p.1.2) ≤ (x - p.1.1) * (p.2.2 - p.1.2) then 1 else 0)
  else (if p.2.2 ≤ y ∧ y < p.1.2 ∧ (p.1.1 - p.2.1) * (y - p.2.2) ≤ (x - p.2.1) * (p.1.2 - p.2.2) then -1 else 0)
noncomputable def lwSum (x y : Int) (ps : List Pr) : Int := (ps.map (lwTerm x y)).sum
theorem lwSum_succ {x y : Int} {l : List Pr} {i : Nat} {p : Pr} (h : l[i]? = some p) : lwSum x y (l.take (i + 1)) = lwSum x y (l.take i) + lwTerm x y p := by
  unfold lwSum
  rw [List.take_add_one, h]
  simp
section
variable {prog : Program} {w : World} {A : Around} {E : Value → Shared → Prop} {s : Shared} {h₀ : Heap} {L : Addr} {m : Str → Option Value} {news : List (Addr × Obj)}
theorem eq_sp {a b : Addr} {c d : Int × Int} {t1 t2 t3 t4 : Nat} {n1 n2 : Nat} {r : Bool} {Q : Value → Shared → Prop} (N : News h₀ L s.heap news) (ha : (a, tupOf [.int c.1 t1, .int c.2 t2] n1) ∈ news) (hb : (b, tupOf [.int d.1 t3, .int d.2 t4] n2) ∈ news)
    (hr : decide (c = d) = r) (hu : A.units + 64 < cLine) (h : Q (.bool r) s) : wpAny (model prog w) A (compareOp .Eq (.ref a) (.ref b)) Q E s := by
  obtain ⟨as, ra⟩ := kqd_in N 1 (v := .ref a) (d := spD c) (.tuple (vs := [.int c.1 t1, .int c.2 t2]) ha (.cons (.int _ _) (.cons (.int _ _) .nil))) rfl
  obtain ⟨bs, rb⟩ := kqd_in N 1 (v := .ref b) (d := spD d) (.tuple (vs := [.int d.1 t3, .int d.2 t4]) hb (.cons (.int _ _) (.cons (.int _ _) .nil))) rfl
  have e : PyData.eqv (kqdP (spD c)) (kqdP (spD d)) = r := by
    rw [← hr]
    have q := kqd_eqv 1 (spD c) (spD d) 1 rfl rfl
    by_cases hq : c = d
    · rw [decide_eq_true hq]; exact q.mpr (by rw [hq])
    · rw [decide_eq_false hq]; exact Bool.eq_false_iff.mpr fun x => hq (by
        have := q.mp x
        simp only [spD, Dat.tuple.injEq, List.cons.injEq, Dat.int.injEq, and_true] at this
        exact Prod.ext this.1 this.2)
  have la := kqd_lay 1 (spD c) rfl
  have lb := kqd_lay 1 (spD d) rfl
  refine eq_dataH ra rb ?_ ?_ hu (by rw [e]; exact h)
  · unfold SeqAt.shaped; rw [la.1, Bool.true_and]; exact decide_eq_true (Nat.le_trans la.2 (by decide))
  · unfold SeqAt.shaped; rw [lb.1, Bool.true_and]; exact decide_eq_true (Nat.le_trans lb.2 (by decide))
end
set_option maxHeartbeats 4000000 in
theorem tel_lawWinding {l : Addr} {vs : List Value} {nn : Nat} {prs : List Pr} {x y : Int} {t0 u0 : Nat} (hok : ∀ p ∈ prs, PrOk p) (hx : -1000 ≤ x ∧ x ≤ 1000) (hy : -1000 ≤ y ∧ y ≤ 1000) :
    Tel 233 16 128 [.ref l, .int x t0, .int y u0] (fun news => (l, listOf vs.toArray nn) ∈ news ∧ DatAll news vs (prs.map prD)) (fun news r => ∃ k, r = .int (lwSum x y prs) k) := by
  k_with_none
  k_with "call builtin:len" => (k_here; (with_reducible show wpAny _ _ (call (Value.builtin "len") [Value.ref _]) _ _ _); k_dflt (refine' len_led (by k_asm) (by k_mem) (by ((try simp only [List.length_append, List.length_cons, List.length_nil]); omega)) ?_; k_whole))
  k_with "subscriptTail" => (k_here; (with_reducible show wpAny _ _ (subscriptTail _ _ (Value.ref _) (Value.int _ _)) _ _ _); k_dflt (refine' item_led (by k_asm) (by k_mem) (by omega) (by omega) (by with_reducible assumption) ?_ (by with_unfolding_all rfl); k_whole))
  k_with "exec For Tuple Name cons nil" => (k_here; k_dflt (refine' For_at ?_ (by intro _; with_unfolding_all rfl)))
  k_with "compareOp Eq ref ref" => (k_here; k_dflt (refine' eq_sp (by k_asm) (by k_mem) (by k_mem) (by assumption) (by k_units) ?_; k_whole))
  k_with "subscriptTail Subscript Name UnaryOp Constant ref int" => (k_here; (first | (with_reducible show wpAny _ _ (subscriptTail _ _ (Value.ref _) (Value.int 0 _)) _ _ _) | (with_reducible show wpAny _ _ (subscriptTail _ _ (Value.ref _) (Value.int 1 _)) _ _ _)); k_dflt (refine' item_ledT (by k_asm) (by k_mem) (by decide) (by decide) (by exact rfl) ?_ (by with_unfolding_all rfl); k_whole))
  k_with "subscriptTail Subscript" => (k_here; (first | (with_reducible show wpAny _ _ (subscriptTail _ _ (Value.ref _) (Value.int 0 _)) _ _ _) | (with_reducible show wpAny _ _ (subscriptTail _ _ (Value.ref _) (Value.int 1 _)) _ _ _)); k_dflt (refine' item_ledT (by k_asm) (by k_mem) (by decide) (by decide) (by exact rfl) ?_ (by with_unfolding_all rfl); k_whole))
  k_with "subscriptTail Name Constant ref int" => (k_here; (first | (with_reducible show wpAny _ _ (subscriptTail _ _ (Value.ref _) (Value.int 0 _)) _ _ _) | (with_reducible show wpAny _ _ (subscriptTail _ _ (Value.ref _) (Value.int 1 _)) _ _ _)); k_dflt (refine' item_ledT (by k_asm) (by k_mem) (by decide) (by decide) (by exact rfl) ?_ (by with_unfolding_all rfl); k_whole))
  intro prog w p loose mean mg mb dp un gd cn cs a ccd cl outer A₀ base h₀ L m news s Q E B F X N T hk hP hd hu hret
  obtain ⟨hl, hvs⟩ := hP
  (refine wpAny_call ?_; k_dflt ktr_enter)
  k_steps
  rename_i g1 L1 hh0 FG1 B1 X1 T1 hh1 F1 N1
  refine iter_list (σ := Int × Nat) (fun _ => []) news (fun c => [("found", .int c.1 c.2)]) ["one", "other", "upper", "lower", "high", "wide"] []
    (fun i S c => c.1 = lwSum x y (prs.take i)) (0, _) rfl hl (fun v hv => by
      obtain ⟨i, hi, e⟩ := List.getElem_of_mem hv
      obtain ⟨cr, _, hI⟩ := dat_of hvs (i := i) (v := v) (by rw [List.getElem?_eq_getElem hi, e])
      obtain ⟨_, _, _, _, rfl, _⟩ := pr_inv hI
      exact GoOk.tuple) F1 N1 (fun p hp => hp) (fun _ => rfl) (fun p hp a ha => nomatch ha) (by ((try dsimp only); (repeat' (first | exact List.forall_mem_nil _ | (refine List.forall_mem_cons.mpr ⟨?_, ?_⟩) | rfl | (with_unfolding_all rfl))))) rfl (by passes_own) ?_ ?_
  · intro i v c S u h tk own hv hP hcst hoff F' N' QL hQL
    obtain ⟨fd, tf⟩ := c
    dsimp only at hP F' N'
    obtain ⟨pr, hpr, hI⟩ := dat_of hvs hv
    have hpk := hok pr (List.mem_of_getElem? hpr)
    unfold PrOk at hpk
    replace hI := DatIn.mono hcst hI
    obtain ⟨pa, pn, v1, v2, rfl, pm, hI1, hI2⟩ := pr_inv hI
    obtain ⟨a1, n1, t1, t2, rfl, m1⟩ := sp_inv hI1
    obtain ⟨a2, n2, t3, t4, rfl, m2⟩ := sp_inv hI2
    have hs1 : decide (pr.1 = pr.1) = true := decide_eq_true rfl
    simp only [List.cons_append, List.nil_append] at N'
    by_cases hlt : pr.1.2 < pr.2.2
    · k_steps
      all_goals first
        | (refine' hQL _ _ (lpost_next (fd + 1, _) ([]) ?fr1 ?nw1 ?sub1 ?own1 ?ord1 ?ps1 ?rest1 ?P1); (case fr1 => k_asm); (case nw1 => k_asm); (case sub1 => ((try dsimp only); (repeat' (first | (refine List.forall_mem_append.mpr ⟨?_, ?_⟩) | (refine List.forall_mem_cons.mpr ⟨?_, ?_⟩) | exact List.forall_mem_nil _ | exact (fun p9 hp9 => by simp only [List.mem_append, List.mem_cons, hp9, true_or, or_true]) | k_mem)))); (case own1 => ((try dsimp only); (repeat' (first | (refine List.forall_mem_append.mpr ⟨?_, ?_⟩) | (refine List.forall_mem_cons.mpr ⟨?_, ?_⟩) | exact List.forall_mem_nil _ | exact (fun p9 hp9 => by simp only [List.mem_append, List.mem_cons, hp9, true_or, or_true]) | k_mem)))); (case ord1 => ((try dsimp only); (try simp only [List.forall_mem_cons, List.forall_mem_append, List.cons_append, List.nil_append, List.not_mem_nil, false_implies, implies_true, and_true, forall_and, imp_and]); (repeat' (apply And.intro)); all_goals (first | assumption | (refine ltN ?_; omega) | exact (fun _ _ => List.forall_mem_nil _)))); (case ps1 => ((try dsimp only); (repeat' (first | exact List.forall_mem_nil _ | (refine List.forall_mem_cons.mpr ⟨?_, ?_⟩) | rfl | (with_unfolding_all rfl))))); (case rest1 => (intro z9 h8 h9; (try simp only [List.forall_mem_cons, List.not_mem_nil, false_implies, implies_true, and_true, ne_eq] at h8); simp only [List.contains_cons, List.contains_nil, Bool.or_false, Bool.or_eq_false_iff, beq_eq_false_iff_ne, ne_eq] at h9; simp [frm, kstB, h8, h9])); (case P1 => (show fd + 1 = lwSum x y (prs.take (i + 1)); rw [lwSum_succ hpr, ← hP]; unfold lwTerm; rw [if_pos hlt, if_pos ⟨by assumption, by assumption, by assumption⟩])))
        | (refine' hQL _ _ (lpost_next (fd, tf) ([]) ?fr2 ?nw2 ?sub2 ?own2 ?ord2 ?ps2 ?rest2 ?P2); (case fr2 => k_asm); (case nw2 => k_asm); (case sub2 => ((try dsimp only); (repeat' (first | (refine List.forall_mem_append.mpr ⟨?_, ?_⟩) | (refine List.forall_mem_cons.mpr ⟨?_, ?_⟩) | exact List.forall_mem_nil _ | exact (fun p9 hp9 => by simp only [List.mem_append, List.mem_cons, hp9, true_or, or_true]) | k_mem)))); (case own2 => ((try dsimp only); (repeat' (first | (refine List.forall_mem_append.mpr ⟨?_, ?_⟩) | (refine List.forall_mem_cons.mpr ⟨?_, ?_⟩) | exact List.forall_mem_nil _ | exact (fun p9 hp9 => by simp only [List.mem_append, List.mem_cons, hp9, true_or, or_true]) | k_mem)))); (case ord2 => ((try dsimp only); (try simp only [List.forall_mem_cons, List.forall_mem_append, List.cons_append, List.nil_append, List.not_mem_nil, false_implies, implies_true, and_true, forall_and, imp_and]); (repeat' (apply And.intro)); all_goals (first | assumption | (refine ltN ?_; omega) | exact (fun _ _ => List.forall_mem_nil _)))); (case ps2 => ((try dsimp only); (repeat' (first | exact List.forall_mem_nil _ | (refine List.forall_mem_cons.mpr ⟨?_, ?_⟩) | rfl | (with_unfolding_all rfl))))); (case rest2 => (intro z9 h8 h9; (try simp only [List.forall_mem_cons, List.not_mem_nil, false_implies, implies_true, and_true, ne_eq] at h8); simp only [List.contains_cons, List.contains_nil, Bool.or_false, Bool.or_eq_false_iff, beq_eq_false_iff_ne, ne_eq] at h9; simp [frm, kstB, h8, h9])); (case P2 => (show fd = lwSum x y (prs.take (i + 1)); rw [lwSum_succ hpr, ← hP]; unfold lwTerm; rw [if_pos hlt, if_neg (by rintro ⟨h91, h92, h93⟩; first | contradiction | omega)]; exact (Int.add_zero _).symm)))
    · obtain ⟨b9, hs2⟩ : ∃ b9, decide (pr.2 = pr.1) = b9 := ⟨_, rfl⟩
      have hne : b9 = true → ¬ pr.2.2 < pr.1.2 := fun e h => by rw [e] at hs2; rw [of_decide_eq_true hs2] at h; omega
      k_steps
      all_goals first
        | (refine' hQL _ _ (lpost_next (fd + -1, _) ([]) ?fr3 ?nw3 ?sub3 ?own3 ?ord3 ?ps3 ?rest3 ?P3); (case fr3 => k_asm); (case nw3 => k_asm); (case sub3 => ((try dsimp only); (repeat' (first | (refine List.forall_mem_append.mpr ⟨?_, ?_⟩) | (refine List.forall_mem_cons.mpr ⟨?_, ?_⟩) | exact List.forall_mem_nil _ | exact (fun p9 hp9 => by simp only [List.mem_append, List.mem_cons, hp9, true_or, or_true]) | k_mem)))); (case own3 => ((try dsimp only); (repeat' (first | (refine List.forall_mem_append.mpr ⟨?_, ?_⟩) | (refine List.forall_mem_cons.mpr ⟨?_, ?_⟩) | exact List.forall_mem_nil _ | exact (fun p9 hp9 => by simp only [List.mem_append, List.mem_cons, hp9, true_or, or_true]) | k_mem)))); (case ord3 => ((try dsimp only); (try simp only [List.forall_mem_cons, List.forall_mem_append, List.cons_append, List.nil_append, List.not_mem_nil, false_implies, implies_true, and_true, forall_and, imp_and]); (repeat' (apply And.intro)); all_goals (first | assumption | (refine ltN ?_; omega) | exact (fun _ _ => List.forall_mem_nil _)))); (case ps3 => ((try dsimp only); (repeat' (first | exact List.forall_mem_nil _ | (refine List.forall_mem_cons.mpr ⟨?_, ?_⟩) | rfl | (with_unfolding_all rfl))))); (case rest3 => (intro z9 h8 h9; (try simp only [List.forall_mem_cons, List.not_mem_nil, false_implies, implies_true, and_true, ne_eq] at h8); simp only [List.contains_cons, List.contains_nil, Bool.or_false, Bool.or_eq_false_iff, beq_eq_false_iff_ne, ne_eq] at h9; simp [frm, kstB, h8, h9])); (case P3 => (show fd + -1 = lwSum x y (prs.take (i + 1)); rw [lwSum_succ hpr, ← hP]; unfold lwTerm; rw [if_neg hlt, if_pos ⟨by assumption, by assumption, by assumption⟩])))
        | (refine' hQL _ _ (lpost_next (fd, tf) ([]) ?fr4 ?nw4 ?sub4 ?own4 ?ord4 ?ps4 ?rest4 ?P4); (case fr4 => k_asm); (case nw4 => k_asm); (case sub4 => ((try dsimp only); (repeat' (first | (refine List.forall_mem_append.mpr ⟨?_, ?_⟩) | (refine List.forall_mem_cons.mpr ⟨?_, ?_⟩) | exact List.forall_mem_nil _ | exact (fun p9 hp9 => by simp only [List.mem_append, List.mem_cons, hp9, true_or, or_true]) | k_mem)))); (case own4 => ((try dsimp only); (repeat' (first | (refine List.forall_mem_append.mpr ⟨?_, ?_⟩) | (refine List.forall_mem_cons.mpr ⟨?_, ?_⟩) | exact List.forall_mem_nil _ | exact (fun p9 hp9 => by simp only [List.mem_append, List.mem_cons, hp9, true_or, or_true]) | k_mem)))); (case ord4 => ((try dsimp only); (try simp only [List.forall_mem_cons, List.forall_mem_append, List.cons_append, List.nil_append, List.not_mem_nil, false_implies, implies_true, and_true, forall_and, imp_and]); (repeat' (apply And.intro)); all_goals (first | assumption | (refine ltN ?_; omega) | exact (fun _ _ => List.forall_mem_nil _)))); (case ps4 => ((try dsimp only); (repeat' (first | exact List.forall_mem_nil _ | (refine List.forall_mem_cons.mpr ⟨?_, ?_⟩) | rfl | (with_unfolding_all rfl))))); (case rest4 => (intro z9 h8 h9; (try simp only [List.forall_mem_cons, List.not_mem_nil, false_implies, implies_true, and_true, ne_eq] at h8); simp only [List.contains_cons, List.contains_nil, Bool.or_false, Bool.or_eq_false_iff, beq_eq_false_iff_ne, ne_eq] at h9; simp [frm, kstB, h8, h9])); (case P4 => (show fd = lwSum x y (prs.take (i + 1)); rw [lwSum_succ hpr, ← hP]; unfold lwTerm; rw [if_neg hlt, if_neg (by rintro ⟨h91, h92, h93⟩; first | contradiction | omega)]; exact (Int.add_zero _).symm)))
        | (exfalso; exact hne (by assumption) (by omega))
  · intro c tl u h tk hP hord F' N'
    obtain ⟨fd, tf⟩ := c
    dsimp only at hP F' N'
    rw [show vs.length = prs.length by rw [DatAll.length hvs, List.length_map], List.take_length] at hP
    subst hP
    k_steps
    (refine' hret (_) ([]) _ _ ?fr5 (nwX ?nw5 ?sub5) ?ord5 ?out5; (case fr5 => k_asm); (case nw5 => k_asm); (case sub5 => ((try dsimp only); (repeat' (first | (refine List.forall_mem_append.mpr ⟨?_, ?_⟩) | (refine List.forall_mem_cons.mpr ⟨?_, ?_⟩) | exact List.forall_mem_nil _ | exact (fun p9 hp9 => by simp only [List.mem_append, List.mem_cons, hp9, true_or, or_true]) | k_mem)))); (case ord5 => ((try dsimp only); (try simp only [List.forall_mem_cons, List.forall_mem_append, List.cons_append, List.nil_append, List.not_mem_nil, false_implies, implies_true, and_true, forall_and, imp_and]); (repeat' (apply And.intro)); all_goals (first | assumption | (refine ltN ?_; omega) | exact (fun _ _ => List.forall_mem_nil _)))); (case out5 => (exact ⟨_, rfl⟩)))
end
section
noncomputable abbrev ruleV (nz : Bool) (t : Nat) : Value := .str (if nz then "nonzero" else "evenodd") t
noncomputable abbrev insideB (nz : Bool) (x : Int) : Bool := if nz then decide (x ≠ 0) else decide (Int.fmod x 2 ≠ 0)
set_option maxHeartbeats 4000000 in
theorem tel_comes_behind {one other : Value} {c d : Int × Int × Int} (hc : 0 ≤ c.2.1 ∧ c.2.1 < 1000000) (hd1 : 0 ≤ d.2.1 ∧ d.2.1 < 1000000) :
    Tel 54 8 64 [one, other] (fun news => DatIn news one (crD c) ∧ DatIn news other (crD d)) (fun _ r => r = .bool (decide (d.1 * c.2.1 < c.1 * d.2.1))) := by
  k_with_none
  k_with "call builtin:len" => (k_here; (with_reducible show wpAny _ _ (call (Value.builtin "len") [Value.ref _]) _ _ _); k_dflt (refine' len_led (by k_asm) (by k_mem) (by ((try simp only [List.length_append, List.length_cons, List.length_nil]); omega)) ?_; k_whole))
  k_with "subscriptTail" => (k_here; (with_reducible show wpAny _ _ (subscriptTail _ _ (Value.ref _) (Value.int _ _)) _ _ _); k_dflt (refine' item_led (by k_asm) (by k_mem) (by omega) (by omega) (by with_reducible assumption) ?_ (by with_unfolding_all rfl); k_whole))
  intro prog w p loose mean mg mb dp un gd cn cs a ccd cl outer A₀ base h₀ L m news s Q E B F X N T hk hP hd hu hret
  obtain ⟨h1, h2⟩ := hP
  obtain ⟨a1, b1, n1, k1, t1, t2, t3, rfl, m1, m2⟩ := cr_inv h1
  obtain ⟨a2, b2, n2, k2, t4, t5, t6, rfl, m3, m4⟩ := cr_inv h2
  (refine wpAny_call ?_; k_dflt ktr_enter)
  k_steps
  all_goals exact hret _ [] _ _ (by k_asm) (ktn_tl0 (by k_asm)) ktn_ord0 rfl
set_option maxHeartbeats 4000000 in
theorem tel_is_inside {x : Int} {t u : Nat} {nz : Bool} :
    Tel 68 8 64 [.int x t, ruleV nz u] (fun _ => True) (fun _ r => r = .bool (insideB nz x)) := by
  k_with_none
  k_with "call builtin:len" => (k_here; (with_reducible show wpAny _ _ (call (Value.builtin "len") [Value.ref _]) _ _ _); k_dflt (refine' len_led (by k_asm) (by k_mem) (by ((try simp only [List.length_append, List.length_cons, List.length_nil]); omega)) ?_; k_whole))
  k_with "subscriptTail" => (k_here; (with_reducible show wpAny _ _ (subscriptTail _ _ (Value.ref _) (Value.int _ _)) _ _ _); k_dflt (refine' item_led (by k_asm) (by k_mem) (by omega) (by omega) (by with_reducible assumption) ?_ (by with_unfolding_all rfl); k_whole))
  intro prog w p loose mean mg mb dp un gd cn cs a ccd cl outer A₀ base h₀ L m news s Q E B F X N T hk hP hd hu hret
  cases nz
  all_goals
    (refine wpAny_call ?_; k_dflt ktr_enter)
    k_steps
    all_goals (exact hret _ [] _ _ (by k_asm) (ktn_tl0 (by k_asm)) ktn_ord0 (congrArg Value.bool (by simp [insideB, bne] <;> rfl)))
set_option maxHeartbeats 4000000 in
theorem tel_step_of {fine grain : Int} {t u : Nat} (h1 : 1 ≤ fine ∧ fine ≤ 3 ∧ 1 ≤ grain ∧ grain ≤ 12) (h2 : Int.fmod grain (2 * fine) = 0) :
    Tel 82 8 64 [.int fine t, .int grain u] (fun _ => True) (fun _ r => ∃ k, r = .int (Int.fdiv grain fine) k) := by
  k_with_none
  k_with "call builtin:len" => (k_here; (with_reducible show wpAny _ _ (call (Value.builtin "len") [Value.ref _]) _ _ _); k_dflt (refine' len_led (by k_asm) (by k_mem) (by ((try simp only [List.length_append, List.length_cons, List.length_nil]); omega)) ?_; k_whole))
  k_with "subscriptTail" => (k_here; (with_reducible show wpAny _ _ (subscriptTail _ _ (Value.ref _) (Value.int _ _)) _ _ _); k_dflt (refine' item_led (by k_asm) (by k_mem) (by omega) (by omega) (by with_reducible assumption) ?_ (by with_unfolding_all rfl); k_whole))
  intro prog w p loose mean mg mb dp un gd cn cs a ccd cl outer A₀ base h₀ L m news s Q E B F X N T hk hP hd hu hret
  (refine wpAny_call ?_; k_dflt ktr_enter)
  k_steps
  · exact absurd h2 (by assumption)
  · exact hret _ [] _ _ (by k_asm) (ktn_tl0 (by k_asm)) ktn_ord0 ⟨_, rfl⟩
set_option maxHeartbeats 4000000 in
theorem tel_ceiling {x y : Int} {t u : Nat} (h1 : 0 < y ∧ y < 1000000) :
    Tel 96 8 64 [.int x t, .int y u] (fun _ => True) (fun _ r => ∃ k, r = .int (0 - Int.fdiv (0 - x) y) k) := by
  k_with_none
  k_with "call builtin:len" => (k_here; (with_reducible show wpAny _ _ (call (Value.builtin "len") [Value.ref _]) _ _ _); k_dflt (refine' len_led (by k_asm) (by k_mem) (by ((try simp only [List.length_append, List.length_cons, List.length_nil]); omega)) ?_; k_whole))
  k_with "subscriptTail" => (k_here; (with_reducible show wpAny _ _ (subscriptTail _ _ (Value.ref _) (Value.int _ _)) _ _ _); k_dflt (refine' item_led (by k_asm) (by k_mem) (by omega) (by omega) (by with_reducible assumption) ?_ (by with_unfolding_all rfl); k_whole))
  intro prog w p loose mean mg mb dp un gd cn cs a ccd cl outer A₀ base h₀ L m news s Q E B F X N T hk hP hd hu hret
  (refine wpAny_call ?_; k_dflt ktr_enter)
  k_steps
  all_goals exact hret _ [] _ _ (by k_asm) (ktn_tl0 (by k_asm)) ktn_ord0 ⟨_, rfl⟩
section
variable {prog : Program} {w : World} {A : Around} {E : Value → Shared → Prop} {s : Shared}
theorem notin_rules {t : Addr} {items : Array Value} {ys : List Str} {x : Str} {u : Tok} {r : Bool} {Q : Value → Shared → Prop} (ht : IsTup s.heap t items) (hi : StrsAre items.toList ys) (hr : (!(ys.any (· == x))) = r)
    (h : Q (.bool r) s) : wpAny (model prog w) A (compareOp .NotIn (.str x u) (.ref t)) Q E s := notin_tuple_strs ht hi (by rw [hr]; exact h)
end
set_option maxHeartbeats 4000000 in
theorem tel_check_rule {u : Nat} {nz : Bool} :
    Tel 110 8 64 [ruleV nz u] (fun _ => True) (fun _ r => r = .none) := by
  k_with_none
  k_with "call builtin:len" => (k_here; (with_reducible show wpAny _ _ (call (Value.builtin "len") [Value.ref _]) _ _ _); k_dflt (refine' len_led (by k_asm) (by k_mem) (by ((try simp only [List.length_append, List.length_cons, List.length_nil]); omega)) ?_; k_whole))
  k_with "subscriptTail" => (k_here; (with_reducible show wpAny _ _ (subscriptTail _ _ (Value.ref _) (Value.int _ _)) _ _ _); k_dflt (refine' item_led (by k_asm) (by k_mem) (by omega) (by omega) (by with_reducible assumption) ?_ (by with_unfolding_all rfl); k_whole))
  k_with "compareOp NotIn str ref" => (k_here; k_dflt (refine' notin_rules (r := false) (ys := ["nonzero", "evenodd"]) (tupK (Frag.In.keeps (by k_asm) (Fr.keep (by k_asm))) (by k_is)) (by exact StrsAre.cons _ _ (StrsAre.cons _ _ StrsAre.nil)) (by decide +kernel) ?_))
  intro prog w p loose mean mg mb dp un gd cn cs a ccd cl outer A₀ base h₀ L m news s Q E B F X N T hk hP hd hu hret
  cases nz
  all_goals
    simp only [ruleV, if_true, Bool.false_eq_true, if_false]
    (refine wpAny_call ?_; k_dflt ktr_enter)
    k_steps
    all_goals exact hret _ [] _ _ (by k_asm) (ktn_tl0 (by k_asm)) ktn_ord0 rfl
set_option maxHeartbeats 4000000 in
theorem tel_covers {v : Value} {sd : SD} {y : Int} {t : Nat} :
    Tel 159 8 64 [v, .int y t] (fun news => SideIn news v sd) (fun _ r => r = .bool (decide (sd.y1 ≤ y ∧ y < sd.y2))) := by
  k_with_none
  k_with "call builtin:len" => (k_here; (with_reducible show wpAny _ _ (call (Value.builtin "len") [Value.ref _]) _ _ _); k_dflt (refine' len_led (by k_asm) (by k_mem) (by ((try simp only [List.length_append, List.length_cons, List.length_nil]); omega)) ?_; k_whole))
  k_with "subscriptTail" => (k_here; (with_reducible show wpAny _ _ (subscriptTail _ _ (Value.ref _) (Value.int _ _)) _ _ _); k_dflt (refine' item_led (by k_asm) (by k_mem) (by omega) (by omega) (by with_reducible assumption) ?_ (by with_unfolding_all rfl); k_whole))
  k_with "compareOp NotIn str ref" => (k_here; k_dflt (refine' notin_rules (r := false) (ys := ["nonzero", "evenodd"]) (tupK (Frag.In.keeps (by k_asm) (Fr.keep (by k_asm))) (by k_is)) (by exact StrsAre.cons _ _ (StrsAre.cons _ _ StrsAre.nil)) (by decide +kernel) ?_))
  intro prog w p loose mean mg mb dp un gd cn cs a ccd cl outer A₀ base h₀ L m news s Q E B F X N T hk hP hd hu hret
  obtain ⟨x, d, g1, g2, g3, g4, g5, k1, k2, k3, k4, k5, t1, t2, t3, t4, t5, rfl, m1, m2⟩ := hP
  (refine wpAny_call ?_; k_dflt ktr_enter)
  k_steps
  all_goals (exact hret _ [] _ _ (by k_asm) (ktn_tl0 (by k_asm)) ktn_ord0 (congrArg Value.bool (decide_eq_decide.mpr (by omega))))
set_option maxHeartbeats 4000000 in
theorem tel_place_at2 {v : Value} {sd : SD} {y : Int} {t : Nat} (h1 : -100 ≤ sd.y1 ∧ sd.y1 < sd.y2 ∧ sd.y2 ≤ 100) (h2 : -100 ≤ y ∧ y ≤ 100) :
    Tel2 166 8 64 [v, .int y t] (fun news => SideIn news v sd) (fun _ news r => DatIn news r (spD (sd.x1 * (sd.y2 - sd.y1) + (sd.x2 - sd.x1) * (y - sd.y1), sd.y2 - sd.y1))) := by
  k_with_none
  k_with "call builtin:len" => (k_here; (with_reducible show wpAny _ _ (call (Value.builtin "len") [Value.ref _]) _ _ _); k_dflt (refine' len_led (by k_asm) (by k_mem) (by ((try simp only [List.length_append, List.length_cons, List.length_nil]); omega)) ?_; k_whole))
  k_with "subscriptTail" => (k_here; (with_reducible show wpAny _ _ (subscriptTail _ _ (Value.ref _) (Value.int _ _)) _ _ _); k_dflt (refine' item_led (by k_asm) (by k_mem) (by omega) (by omega) (by with_reducible assumption) ?_ (by with_unfolding_all rfl); k_whole))
  k_with "compareOp NotIn str ref" => (k_here; k_dflt (refine' notin_rules (r := false) (ys := ["nonzero", "evenodd"]) (tupK (Frag.In.keeps (by k_asm) (Fr.keep (by k_asm))) (by k_is)) (by exact StrsAre.cons _ _ (StrsAre.cons _ _ StrsAre.nil)) (by decide +kernel) ?_))
  intro prog w p loose mean mg mb dp un gd cn cs a ccd cl outer A₀ base h₀ L m news s Q E B F X N T hk hP hd hu hret
  obtain ⟨x, d, g1, g2, g3, g4, g5, k1, k2, k3, k4, k5, t1, t2, t3, t4, t5, rfl, m1, m2⟩ := hP
  (refine wpAny_call ?_; k_dflt ktr_enter)
  k_steps
  exact hret _ _ _ _ (by k_asm) (ktn_tl1 (by k_asm)) (ktn_ord1 (by ktn_lt)) (.tuple (.head _) (.cons (.int _ _) (.cons (.int _ _) .nil)))
theorem tel_place_at {v : Value} {sd : SD} {y : Int} {t : Nat} (h1 : -100 ≤ sd.y1 ∧ sd.y1 < sd.y2 ∧ sd.y2 ≤ 100) (h2 : -100 ≤ y ∧ y ≤ 100) :
    Tel 166 8 64 [v, .int y t] (fun news => SideIn news v sd) (fun news r => DatIn news r (spD (sd.x1 * (sd.y2 - sd.y1) + (sd.x2 - sd.x1) * (y - sd.y1), sd.y2 - sd.y1))) :=
  (tel_place_at2 h1 h2).toTel fun _ _ _ h => DatIn.mono (fun _ hp => List.mem_append_right _ hp) h
set_option maxHeartbeats 4000000 in
theorem tel_sample_place {number fine grain : Int} {t u v : Nat} (h0 : -1000 ≤ number ∧ number ≤ 1000) (h1 : 1 ≤ fine ∧ fine ≤ 3 ∧ 1 ≤ grain ∧ grain ≤ 12) (h2 : Int.fmod grain (2 * fine) = 0) :
    Tel 89 16 128 [.int number t, .int fine u, .int grain v] (fun _ => True) (fun _ r => ∃ k, r = .int (number * Int.fdiv grain fine + Int.fdiv (Int.fdiv grain fine) 2) k) := by
  k_with_none
  k_with "call builtin:len" => (k_here; (with_reducible show wpAny _ _ (call (Value.builtin "len") [Value.ref _]) _ _ _); k_dflt (refine' len_led (by k_asm) (by k_mem) (by ((try simp only [List.length_append, List.length_cons, List.length_nil]); omega)) ?_; k_whole))
  k_with "subscriptTail" => (k_here; (with_reducible show wpAny _ _ (subscriptTail _ _ (Value.ref _) (Value.int _ _)) _ _ _); k_dflt (refine' item_led (by k_asm) (by k_mem) (by omega) (by omega) (by with_reducible assumption) ?_ (by with_unfolding_all rfl); k_whole))
  k_with "compareOp NotIn str ref" => (k_here; k_dflt (refine' notin_rules (r := false) (ys := ["nonzero", "evenodd"]) (tupK (Frag.In.keeps (by k_asm) (Fr.keep (by k_asm))) (by k_is)) (by exact StrsAre.cons _ _ (StrsAre.cons _ _ StrsAre.nil)) (by decide +kernel) ?_))
  k_with "call ref" => (k_here; k_dflt (refine' Tel.useR (by k_asm) (by k_asm) (by k_asm) (by k_asm) (by k_asm) (by first | exact rfl | assumption) (by trivial) (tel_step_of (by omega) (by assumption)) (by ktr_room) (by ktr_units) ?_); intro r9kw tl9kw h9kw tk9kw F9kw N9kw hl9kw ho9kw; (try simp only [List.cons_append, List.nil_append, List.append_assoc] at N9kw ho9kw); (try simp only [List.forall_mem_cons, List.forall_mem_append, List.cons_append, List.nil_append, List.not_mem_nil, false_implies, implies_true, and_true] at hl9kw); (repeat' (obtain ⟨_, hl9kw⟩ := hl9kw)); obtain ⟨k9kw, e9kw⟩ := ho9kw; subst e9kw; (try dsimp only); (try k_fold))
  k_with "call ref" => (k_here; k_dflt (refine' Tel.useR (by k_asm) (by k_asm) (by k_asm) (by k_asm) (by k_asm) (by first | exact rfl | assumption) (by trivial) (tel_ceiling (by omega)) (by ktr_room) (by ktr_units) ?_); intro r9kw tl9kw h9kw tk9kw F9kw N9kw hl9kw ho9kw; (try simp only [List.cons_append, List.nil_append, List.append_assoc] at N9kw ho9kw); (try simp only [List.forall_mem_cons, List.forall_mem_append, List.cons_append, List.nil_append, List.not_mem_nil, false_implies, implies_true, and_true] at hl9kw); (repeat' (obtain ⟨_, hl9kw⟩ := hl9kw)); obtain ⟨k9kw, e9kw⟩ := ho9kw; subst e9kw; (try dsimp only); (try k_fold))
  intro prog w p loose mean mg mb dp un gd cn cs a ccd cl outer A₀ base h₀ L m news s Q E B F X N T hk hP hd hu hret
  (refine wpAny_call ?_; k_dflt ktr_enter)
  k_steps
  all_goals exact hret _ [] _ _ (by k_asm) (nw0 (by k_asm) (by intro p hp; simp only [List.mem_append, List.mem_cons, List.not_mem_nil, or_false, false_or] at hp ⊢; grind)) ktn_ord0 ⟨_, rfl⟩
set_option maxHeartbeats 4000000 in
theorem tel_column_behind {pl : Value} {top bottom step : Int} {u : Nat} (h0 : 0 < bottom ∧ bottom < 1000) (hs : step = 2 ∨ step = 4 ∨ step = 6) :
    Tel 103 16 128 [pl, .int step u] (fun news => DatIn news pl (spD (top, bottom))) (fun _ r => ∃ k, r = .int (0 - Int.fdiv (0 - (2 * top - step * bottom)) (2 * step * bottom)) k) := by
  k_with_none
  k_with "call builtin:len" => (k_here; (with_reducible show wpAny _ _ (call (Value.builtin "len") [Value.ref _]) _ _ _); k_dflt (refine' len_led (by k_asm) (by k_mem) (by ((try simp only [List.length_append, List.length_cons, List.length_nil]); omega)) ?_; k_whole))
  k_with "subscriptTail" => (k_here; (with_reducible show wpAny _ _ (subscriptTail _ _ (Value.ref _) (Value.int _ _)) _ _ _); k_dflt (refine' item_led (by k_asm) (by k_mem) (by omega) (by omega) (by with_reducible assumption) ?_ (by with_unfolding_all rfl); k_whole))
  k_with "compareOp NotIn str ref" => (k_here; k_dflt (refine' notin_rules (r := false) (ys := ["nonzero", "evenodd"]) (tupK (Frag.In.keeps (by k_asm) (Fr.keep (by k_asm))) (by k_is)) (by exact StrsAre.cons _ _ (StrsAre.cons _ _ StrsAre.nil)) (by decide +kernel) ?_))
  k_with "call ref" => (k_here; k_dflt (refine' Tel.useR (by k_asm) (by k_asm) (by k_asm) (by k_asm) (by k_asm) (by first | exact rfl | assumption) (by trivial) (tel_step_of (by omega) (by assumption)) (by ktr_room) (by ktr_units) ?_); intro r9kw tl9kw h9kw tk9kw F9kw N9kw hl9kw ho9kw; (try simp only [List.cons_append, List.nil_append, List.append_assoc] at N9kw ho9kw); (try simp only [List.forall_mem_cons, List.forall_mem_append, List.cons_append, List.nil_append, List.not_mem_nil, false_implies, implies_true, and_true] at hl9kw); (repeat' (obtain ⟨_, hl9kw⟩ := hl9kw)); obtain ⟨k9kw, e9kw⟩ := ho9kw; subst e9kw; (try dsimp only); (try k_fold))
  k_with "call ref" => (k_here; k_dflt (refine' Tel.useR (by k_asm) (by k_asm) (by k_asm) (by k_asm) (by k_asm) (by first | exact rfl | assumption) (by trivial) (tel_ceiling (by omega)) (by ktr_room) (by ktr_units) ?_); intro r9kw tl9kw h9kw tk9kw F9kw N9kw hl9kw ho9kw; (try simp only [List.cons_append, List.nil_append, List.append_assoc] at N9kw ho9kw); (try simp only [List.forall_mem_cons, List.forall_mem_append, List.cons_append, List.nil_append, List.not_mem_nil, false_implies, implies_true, and_true] at hl9kw); (repeat' (obtain ⟨_, hl9kw⟩ := hl9kw)); obtain ⟨k9kw, e9kw⟩ := ho9kw; subst e9kw; (try dsimp only); (try k_fold))
  intro prog w p loose mean mg mb dp un gd cn cs a ccd cl outer A₀ base h₀ L m news s Q E B F X N T hk hP hd hu hret
  obtain ⟨a1, n1, t1, t2, rfl, m1⟩ := sp_inv hP
  have hb : 0 < 2 * step * bottom ∧ 2 * step * bottom < 1000000 := by rcases hs with rfl | rfl | rfl <;> omega
  (refine wpAny_call ?_; k_dflt ktr_enter)
  k_steps
  all_goals exact hret _ [] _ _ (by k_asm) (nw0 (by k_asm) (by intro p hp; simp only [List.mem_append, List.mem_cons, List.not_mem_nil, or_false, false_or] at hp ⊢; grind)) ktn_ord0 ⟨_, rfl⟩
end
section
section
variable {key : Nat → Int} {N : Nat} {cmp : Nat → Nat → (Bool → Shared → Prop) → Shared → Prop} {s : Shared}
noncomputable def KP (key : Nat → Int) (p : Array Nat) (i : Nat) : Int := key (p.getD i 0)
noncomputable def Srt (key : Nat → Int) (p : Array Nat) (k : Nat) : Prop := ∀ i j, i ≤ j → j < k → KP key p i ≤ KP key p j
noncomputable def NInc (key : Nat → Int) (p : Array Nat) (k : Nat) : Prop := ∀ i j, i ≤ j → j < k → KP key p j ≤ KP key p i
noncomputable def Pm (N : Nat) (p : Array Nat) : Prop := p.Perm (List.toArray (List.range N))
theorem Pm.size {p : Array Nat} (h : Pm N p) : p.size = N := by have := h.size_eq; simpa using this
theorem Pm.lt {p : Array Nat} (h : Pm N p) (hN : 0 < N) (i : Nat) : p.getD i 0 < N := by
  by_cases hi : i < p.size
  · have e : p.getD i 0 = p[i] := by simp [Array.getD, hi]
    rw [e]
    have hm : p[i] ∈ List.toArray (List.range N) := (h.mem_iff).mp (Array.getElem_mem hi)
    simpa using hm
  · have e : p.getD i 0 = 0 := by simp [Array.getD, hi]
    rw [e]; exact hN
theorem getD_congr {p q : Array Nat} {i j : Nat} (h : p[i]? = q[j]?) : p.getD i 0 = q.getD j 0 := by
  rw [Array.getD_eq_getD_getElem?, Array.getD_eq_getD_getElem?, h]
theorem KP_rev {p : Array Nat} {i j : Nat} (hj : j ≤ p.size) (k : Nat) : KP key (kas_rev p i j) k = if i ≤ k ∧ k < j then KP key p (i + j - 1 - k) else KP key p k := by
  have e := getElem?_mirror_all (xs := p) (i := i) hj k
  unfold KP kas_rev
  by_cases h : i ≤ k ∧ k < j
  · rw [if_pos h] at e ⊢; rw [getD_congr e]
  · rw [if_neg h] at e ⊢; rw [getD_congr e]
theorem KP_bub {p : Array Nat} {src d : Nat} (hs : src < p.size) (hd : d ≤ src) (k : Nat) : KP key (bubble p src d) k = if k = src - d then KP key p src else if src - d < k ∧ k ≤ src then KP key p (k - 1) else KP key p k := by
  have e := getElem?_bubble hs d hd k
  unfold KP
  by_cases h1 : k = src - d
  · rw [if_pos h1] at e ⊢; rw [getD_congr e]
  · rw [if_neg h1] at e ⊢
    by_cases h2 : src - d < k ∧ k ≤ src
    · rw [if_pos h2] at e ⊢; rw [getD_congr e]
    · rw [if_neg h2] at e ⊢; rw [getD_congr e]
theorem Pm.rev {p : Array Nat} (h : Pm N p) (i j : Nat) : Pm N (kas_rev p i j) := (mirror_perm p i j _).trans h
theorem Pm.bub {p : Array Nat} (h : Pm N p) (i j : Nat) : Pm N (bubble p i j) := (bubble_perm p i j).trans h
variable (H : ∀ i j (C : Bool → Shared → Prop), i < N → j < N → C (decide (key i < key j)) s → cmp i j C s) (hN : 0 < N)
include H hN
theorem asc_ok {p : Array Nat} (hp : Pm N p) : ∀ (f n : Nat) (G : Nat → Shared → Prop), 1 ≤ n → Srt key p n → (∀ m, n ≤ m → m ≤ n + f → Srt key p m → (m < n + f → KP key p m < KP key p (m - 1)) → G m s) → (kas_asc p f n).kasWp cmp G s
  | 0, n, G, h1, hs, hG => hG n (Nat.le_refl _) (Nat.le_refl _) hs (fun h => absurd h (Nat.lt_irrefl _))
  | f + 1, n, G, h1, hs, hG => by
    refine H _ _ _ (hp.lt hN _) (hp.lt hN _) ?_
    by_cases hc : key (p.getD n 0) < key (p.getD (n - 1) 0)
    · rw [decide_eq_true hc]
      exact hG n (Nat.le_refl _) (Nat.le_add_right _ _) hs (fun _ => hc)
    · rw [decide_eq_false hc]
      refine asc_ok hp f (n + 1) G (by omega) (fun i j hij hj => ?_) (fun m h2 h3 h4 h5 => hG m (by omega) (by omega) h4 (fun h => h5 (by omega)))
      by_cases hjn : j < n
      · exact hs i j hij hjn
      · have hj' : j = n := by omega
        subst hj'
        by_cases hin : i = j
        · subst hin; exact Int.le_refl _
        · exact Int.le_trans (hs i (j - 1) (by omega) (by omega)) (Int.not_lt.mp hc)
theorem desc_ok : ∀ (f : Nat) (p : Array Nat) (n q : Nat) (G : Array Nat × Nat × Nat → Shared → Prop), Pm N p → q + 1 ≤ n → n + f ≤ N → NInc key p n → (∀ k, n - (q + 1) ≤ k → k < n → KP key p k = KP key p (n - 1)) →
    (∀ p' n' q', Pm N p' → n ≤ n' → n' ≤ n + f → q' + 1 ≤ n' → NInc key p' n' → (∀ k, n' - (q' + 1) ≤ k → k < n' → KP key p' k = KP key p' (n' - 1)) → G (p', n', q') s) → (kas_desc f p n q).kasWp cmp G s
  | 0, p, n, q, G, hp, hq, hf, hs, he, hG => hG p n q hp (Nat.le_refl _) (Nat.le_refl _) hq hs he
  | f + 1, p, n, q, G, hp, hq, hf, hs, he, hG => by
    refine H _ _ _ (hp.lt hN _) (hp.lt hN _) ?_
    by_cases hc : key (p.getD n 0) < key (p.getD (n - 1) 0)
    · rw [decide_eq_true hc]
      simp only [if_true]
      have hs' : NInc key p (n + 1) := by
        intro i j hij hj
        by_cases hjn : j < n
        · exact hs i j hij hjn
        · have hj' : j = n := by omega
          subst hj'
          by_cases hin : i = j
          · subst hin; exact Int.le_refl _
          · exact Int.le_trans (Int.le_of_lt hc) (hs i (j - 1) (by omega) (by omega))
      by_cases hq0 : q > 0
      · rw [if_pos hq0]
        have hr : ∀ k, KP key (kas_rev p (n - (q + 1)) n) k = KP key p k := by
          intro k
          rw [KP_rev (by rw [hp.size]; omega)]
          by_cases hk : n - (q + 1) ≤ k ∧ k < n
          · rw [if_pos hk, he k hk.1 hk.2, he _ (by omega) (by omega)]
          · rw [if_neg hk]
        refine desc_ok f _ (n + 1) 0 G (hp.rev _ _) (by omega) (by omega) ?_ ?_ (fun p' n' q' a b c d e g => hG p' n' q' a (by omega) (by omega) d e g)
        · intro i j hij hj
          rw [hr, hr]; exact hs' i j hij hj
        · intro k hk1 hk2
          have : k = n + 1 - 1 := by omega
          rw [this]
      · rw [if_neg hq0]
        refine desc_ok f p (n + 1) 0 G hp (by omega) (by omega) hs' ?_ (fun p' n' q' a b c d e g => hG p' n' q' a (by omega) (by omega) d e g)
        intro k hk1 hk2
        have : k = n + 1 - 1 := by omega
        rw [this]
    · rw [decide_eq_false hc]
      simp only [Bool.false_eq_true, if_false]
      refine H _ _ _ (hp.lt hN _) (hp.lt hN _) ?_
      by_cases hd : key (p.getD (n - 1) 0) < key (p.getD n 0)
      · rw [decide_eq_true hd]
        exact hG p n q hp (Nat.le_refl _) (by omega) hq hs he
      · rw [decide_eq_false hd]
        have heq : KP key p n = KP key p (n - 1) := Int.le_antisymm (Int.not_lt.mp hd) (Int.not_lt.mp hc)
        refine desc_ok f p (n + 1) (q + 1) G hp (by omega) (by omega) ?_ ?_ (fun p' n' q' a b c d e g => hG p' n' q' a (by omega) (by omega) d e g)
        · intro i j hij hj
          by_cases hjn : j < n
          · exact hs i j hij hjn
          · have hj' : j = n := by omega
            subst hj'
            by_cases hin : i = j
            · subst hin; exact Int.le_refl _
            · rw [heq]; exact hs i (j - 1) (by omega) (by omega)
        · intro k hk1 hk2
          by_cases hkn : k = n
          · subst hkn; rfl
          · show KP key p k = KP key p n
            rw [heq]
            exact he k (by omega) (by omega)
theorem tail3_ok {n : Nat} {p : Array Nat} {G : Nat × Array Nat → Shared → Prop} (hp : Pm N p) (h1 : 1 ≤ n) (hn : n ≤ N) (hs : NInc key p n) (hG : ∀ m p', Pm N p' → 1 ≤ m → m ≤ N → Srt key p' m → G (m, p') s) : (kas_tail3 n N p).kasWp cmp G s := by
  unfold kas_tail3
  rw [KasT.kasWp_bind]
  refine asc_ok H hN (hp.rev 0 n) (N - n) n _ h1 (fun i j hij hj => ?_) (fun m h2 h3 h4 _ => hG m _ (hp.rev 0 n) (by omega) (by omega) h4)
  have hz : n ≤ p.size := by rw [hp.size]; exact hn
  rw [KP_rev hz, KP_rev hz, if_pos (by omega), if_pos (by omega)]
  exact hs _ _ (by omega) (by omega)
theorem descPart_ok {n : Nat} {p : Array Nat} {G : Nat × Array Nat → Shared → Prop} (hp : Pm N p) (hn : n + 1 ≤ N) (hs : NInc key p (n + 1)) (hG : ∀ m p', Pm N p' → 1 ≤ m → m ≤ N → Srt key p' m → G (m, p') s) : (kas_descPart n N p).kasWp cmp G s := by
  unfold kas_descPart
  rw [KasT.kasWp_bind]
  refine desc_ok H hN (N - (n + 1)) p (n + 1) 0 _ hp (by omega) (by omega) hs (fun k h1 h2 => congrArg (KP key p) (by omega)) (fun p' n' q' a b c d e g => ?_)
  dsimp only
  by_cases hq : q' > 0
  · rw [if_pos hq]
    have hr : ∀ k, KP key (kas_rev p' (n' - (q' + 1)) n') k = KP key p' k := by
      intro k
      rw [KP_rev (by rw [a.size]; omega)]
      by_cases hk : n' - (q' + 1) ≤ k ∧ k < n'
      · rw [if_pos hk, g k hk.1 hk.2, g _ (by omega) (by omega)]
      · rw [if_neg hk]
    refine tail3_ok H hN (a.rev _ _) (by omega) (by omega) (fun i j hij hj => ?_) hG
    rw [hr, hr]; exact e i j hij hj
  · rw [if_neg hq]
    exact tail3_ok H hN a (by omega) (by omega) e hG
theorem count_ok {p : Array Nat} {G : Nat × Array Nat → Shared → Prop} (hp : Pm N p) (hG : ∀ m p', Pm N p' → 1 ≤ m → m ≤ N → Srt key p' m → G (m, p') s) : (kas_count N p).kasWp cmp G s := by
  unfold kas_count
  rw [KasT.kasWp_bind]
  refine asc_ok H hN hp (N - 1) 1 _ (Nat.le_refl _) (fun i j hij hj => Int.le_of_eq (congrArg (KP key p) (by omega))) (fun m h1 h2 h3 h4 => ?_)
  by_cases hm : (m == N) = true
  · rw [if_pos hm]
    exact hG m p hp h1 (by omega) h3
  · rw [if_neg hm]
    have hmN : m ≠ N := by simpa using hm
    have hlt := h4 (by omega)
    by_cases hm1 : m > 1
    · rw [if_pos hm1]
      refine H _ _ _ (hp.lt hN _) (hp.lt hN _) ?_
      by_cases hc : key (p.getD 0 0) < key (p.getD (m - 1) 0)
      · rw [decide_eq_true hc]
        exact hG m p hp h1 (by omega) h3
      · rw [decide_eq_false hc]
        have hall : ∀ k, k < m → KP key p k = KP key p (m - 1) := by
          intro k hk
          have a1 := h3 0 k (by omega) hk
          have a2 := h3 k (m - 1) (by omega) (by omega)
          have a3 : KP key p (m - 1) ≤ KP key p 0 := Int.not_lt.mp hc
          omega
        have hz : m ≤ p.size := by rw [hp.size]; omega
        refine descPart_ok H hN (hp.rev 0 m) (by omega) (fun i j hij hj => ?_) hG
        have val : ∀ k, k < m → KP key (kas_rev p 0 m) k = KP key p (m - 1) := by
          intro k hk
          rw [KP_rev hz, if_pos (by omega), hall _ (by omega)]
        have top : KP key (kas_rev p 0 m) m = KP key p m := by rw [KP_rev hz, if_neg (by omega)]
        by_cases hjm : j < m
        · rw [val j hjm, val i (by omega)]; exact Int.le_refl _
        · have : j = m := by omega
          subst this
          by_cases him : i < j
          · rw [top, val i him]; exact Int.le_of_lt hlt
          · have : i = j := by omega
            subst this; exact Int.le_refl _
    · rw [if_neg hm1]
      have hm' : m = 1 := by omega
      subst hm'
      refine descPart_ok H hN hp (by omega) (fun i j hij hj => ?_) hG
      by_cases h01 : i = j
      · subst h01; exact Int.le_refl _
      · have hi : i = 0 := by omega
        have hj' : j = 1 := by omega
        subst hi; subst hj'
        exact Int.le_of_lt hlt
theorem place_ok {p : Array Nat} {k : Nat} (hp : Pm N p) (hs : Srt key p k) : ∀ (f l r : Nat) (G : Nat → Shared → Prop), l ≤ r → r ≤ k → r - l ≤ f → (∀ i, i < l → KP key p i ≤ KP key p k) → (∀ i, r ≤ i → i < k → KP key p k < KP key p i) →
    (∀ l, l ≤ k → (∀ i, i < l → KP key p i ≤ KP key p k) → (∀ i, l ≤ i → i < k → KP key p k < KP key p i) → G l s) → (kas_place p k f l r).kasWp cmp G s
  | 0, l, r, G, h1, h2, h3, h4, h5, hG => by
    have : l = r := by omega
    subst this
    exact hG l h2 h4 h5
  | f + 1, l, r, G, h1, h2, h3, h4, h5, hG => by
    unfold kas_place
    by_cases hge : l ≥ r
    · rw [if_pos hge]
      have : l = r := by omega
      subst this
      exact hG l h2 h4 h5
    · rw [if_neg hge]
      refine H _ _ _ (hp.lt hN _) (hp.lt hN _) ?_
      by_cases hc : key (p.getD k 0) < key (p.getD ((l + r) / 2) 0)
      · rw [decide_eq_true hc]
        simp only [if_true]
        exact place_ok hp hs f l ((l + r) / 2) G (by omega) (by omega) (by omega) h4 (fun i a b => Int.lt_of_lt_of_le hc (hs _ _ a b)) hG
      · rw [decide_eq_false hc]
        simp only [Bool.false_eq_true, if_false]
        exact place_ok hp hs f ((l + r) / 2 + 1) r G (by omega) (by omega) (by omega) (fun i a => Int.le_trans (hs i ((l + r) / 2) (by omega) (by omega)) (Int.not_lt.mp hc)) h5 hG
theorem bin_ok : ∀ (f : Nat) (p : Array Nat) (k : Nat) (G : Array Nat → Shared → Prop), Pm N p → k + f = N → Srt key p k → (∀ p', Pm N p' → Srt key p' N → G p' s) → (kas_bin f p k).kasWp cmp G s
  | 0, p, k, G, hp, hk, hs, hG => hG p hp ((show k = N by omega) ▸ hs)
  | f + 1, p, k, G, hp, hk, hs, hG => by
    unfold kas_bin
    rw [KasT.kasWp_bind]
    refine place_ok H hN hp hs k 0 k _ (Nat.zero_le _) (Nat.le_refl _) (by omega) (fun i h => absurd h (Nat.not_lt_zero _)) (fun i a b => absurd b (Nat.not_lt.mpr a)) (fun l hl hlo hhi => ?_)
    have hks : k < p.size := by rw [hp.size]; omega
    refine bin_ok f _ (k + 1) G (hp.bub _ _) (by omega) (fun i j hij hj => ?_) hG
    rw [KP_bub hks (by omega), KP_bub hks (by omega), show k - (k - l) = l by omega]
    repeat' split
    all_goals first
      | (exfalso; omega)
      | exact Int.le_refl _
      | exact hlo _ (by omega)
      | exact Int.le_of_lt (hhi _ (by omega) (by omega))
      | exact hs _ _ (by omega) (by omega)
theorem sort_ok {G : Array Nat → Shared → Prop} (hG : ∀ p, Pm N p → Srt key p N → G p s) : (kas_sort N).kasWp cmp G s := by
  unfold kas_sort
  rw [KasT.kasWp_bind]
  refine count_ok H hN (Array.Perm.refl _) (fun m p hp h1 h2 hs => ?_)
  dsimp only
  by_cases hm : m < N
  · rw [if_pos hm]
    rw [show max m 1 = m by omega]
    exact bin_ok H hN _ _ _ _ hp (by omega) hs hG
  · rw [if_neg hm]
    have : m = N := by omega
    subst this
    exact hG p hp hs
end
end
section
section
variable {prog : Program} {w : World} {A : Around} {E : Value → Shared → Prop} {s : Shared} {h₀ : Heap} {L : Addr} {m : Str → Option Value} {news : List (Addr × Obj)}
/-- list.sort of a list of no more than one item -/
theorem short_sort {a : Addr} {vs : List Value} {n : Nat} {P : PySem.Fin → Shared → Prop} (ho : s.heap.get? a = some (seqObj "list" vs.toArray n)) (h2 : vs.length < 2)
    (h : P (.done (.ret .none)) { s with heap := sortedHeap s.heap a vs vs.toArray }) : wpAny (model prog w) A (Builtin.«list.sort» ⟨[.ref a], []⟩) P E s := by
  rw [list_sort_plain]
  have ha : a < s.heap.objs.size := Heap.lt_size ho
  refine wpAny_bind (listItems_at ho rfl ?_)
  refine wpAny_bind (listUpdate_at ho rfl ?_)
  obtain ⟨e1, ho1⟩ : ∃ e1, (s.heap.update a (Obj.mapSeq fun _ => #[])).get? a = some (seqObj "list" #[] e1) := ⟨_, get?_update_seq ho (fun _ => #[])⟩
  refine wpAny_bind (seqEpoch_at ho1 rfl ?_)
  refine wpAny_bind (wpAny_newTuple ?_ (by show vs.length ≤ _; rw [sizeLine_eq]; omega))
  refine wpAny_bind (wpAny_newList ?_)
  refine wpAny_holding ?_
  have ho6 : (((s.heap.update a (Obj.mapSeq fun _ => #[])).push (seqObj "tuple" vs.toArray 0)).push (seqObj "list" #[] 0)).get? a = some (seqObj "list" #[] e1) := by
    rw [Heap.get?_push_ne _ _ _ (by rw [size_push', Heap.size_update]; exact Nat.ne_of_lt (Nat.lt_succ_of_lt ha)), Heap.get?_push_ne _ _ _ (by rw [Heap.size_update]; exact Nat.ne_of_lt ha)]
    exact ho1
  show wpAny (model prog w) A _ P E { s with heap := ((s.heap.update a (Obj.mapSeq fun _ => #[])).push (seqObj "tuple" vs.toArray 0)).push (seqObj "list" #[] 0) }
  dsimp only
  have h2' : vs.toArray.size < 2 := by simpa using h2
  rw [if_pos h2', if_pos h2']
  refine wpAny_bind (wpAny_pure ?_)
  rw [StateT.run_pure]
  refine wpAny_bind (wpAny_pure ?_)
  dsimp only
  have hout : (arrOf (SortSt.mk' general' (vs.toArray.zip vs.toArray) #[] 7 none)).map (·.2) = vs.toArray := by
    show (vs.toArray.zip vs.toArray).map (·.2) = vs.toArray
    rcases vs with _ | ⟨v, vs⟩
    · simp
    · have h9 : vs = [] := List.eq_nil_of_length_eq_zero (by simp only [List.length_cons] at h2; omega)
      subst h9; simp
  rw [hout]
  refine wpAny_bind (seqEpoch_at ho6 rfl ?_)
  refine wpAny_bind (listUpdate_at ho6 rfl ?_ (hsz2 := by rw [List.size_toArray, sizeLine_eq]; omega))
  simp only [bne_self_eq_false, Bool.false_eq_true, if_false]
  exact wpAny_pure h
theorem short_sorted {l : Addr} {vs : List Value} {Q : Value → Shared → Prop} (F : Fr h₀ L s.heap m) (N : News h₀ L s.heap news) (hl : s.heap.IsList l vs.toArray) (h2 : vs.length < 2)
    (h : ∀ D e h', Fr h₀ L h' m → News h₀ L h' ((D, listOf vs.toArray e) :: news) → (∀ q ∈ news, q.1 < D) → Q (.ref D) { s with heap := h' }) :
    wpAny (model prog w) A (call (.builtin "sorted") [.ref l]) Q E s := by
  refine Calls.call_function_entry kind_sorted plain_sorted entry_sorted (args_sorted1 _) ?_
  unfold Builtin.«sorted»
  refine wpAny_bind (m := checkCount "sorted" 1 1 _) (wpAny_pure ?_)
  refine wpAny_bind (collect_list hl ?_ (by rw [sizeLine_eq]; omega))
  refine wpAny_bind (wpAny_newList ?_ (by rw [sizeLine_eq]; omega))
  have hsz : ((s.heap.push (seqObj "list" #[] 0)).update s.heap.objs.size (Obj.mapSeq (· ++ vs.toArray))).objs.size = s.heap.objs.size + 1 := by
    rw [Heap.size_update, size_push']
  have hoL : (((s.heap.push (seqObj "list" #[] 0)).update s.heap.objs.size (Obj.mapSeq (· ++ vs.toArray))).push (seqObj "list" vs.toArray 0)).get? (s.heap.objs.size + 1) = some (seqObj "list" vs.toArray 0) := by
    rw [← hsz]; exact Heap.get?_push_size _ rfl
  show wpAny _ _ _ _ _ { s with heap := ((s.heap.push (seqObj "list" #[] 0)).update s.heap.objs.size (Obj.mapSeq (· ++ vs.toArray))).push (seqObj "list" vs.toArray 0) }
  rw [hsz]
  refine wpAny_bind (wpAny_holding (wpAny_call_entry slot_list_sort ⟨_, hoL, rfl⟩ entry_list_sort (short_sort hoL h2 ⟨_, rfl, ?_⟩) (args_list_sort _)))
  obtain ⟨e, he⟩ := sortedAll_at s.heap vs vs.toArray
  exact wpAny_pure ⟨_, rfl, h _ e _ (F.kept fun _ _ => sortedAll_old) (N.kept_cons F (fun _ _ => sortedAll_old) (Nat.le_succ _) he) fun q hq => Nat.lt_succ_of_lt (Heap.lt_size (N q hq).1)⟩
theorem dat_firsts {vs : List Value} {cs : List (Int × Int)} {h : Heap} (N : News h₀ L h news) (hd : DatAll news vs (cs.map spD)) : ∃ fs : List Value, fs.length = cs.length ∧ (∀ v ∈ fs, ∃ i t, v = .int i t) ∧ KatTups h vs fs := by
  induction cs generalizing vs with
  | nil => cases hd; exact ⟨[], rfl, (fun _ hv => nomatch hv), KatTups.nil⟩
  | cons c cs ih =>
    cases hd with
    | cons h1 hr =>
      obtain ⟨fs, e, hi, k⟩ := ih hr
      obtain ⟨a, n, t1, t2, rfl, hm⟩ := sp_inv h1
      exact ⟨.int c.1 t1 :: fs, by simp [e], (fun v hv => by
        rcases List.mem_cons.mp hv with rfl | hv
        · exact ⟨_, _, rfl⟩
        · exact hi v hv), KatTups.cons (N _ hm).1 rfl rfl rfl k⟩
theorem getD_mem {cs : List (Int × Int)} {k : Nat} (h : k < cs.length) : cs.getD k (0, 0) ∈ cs := by simp [List.getD, h]
noncomputable abbrev kOf (cs : List (Int × Int)) (i : Nat) : Int := 3 * (cs.getD i (0, 0)).1 + (cs.getD i (0, 0)).2
theorem ask_pairs {vs : List Value} {cs : List (Int × Int)} (N : News h₀ L s.heap news) (hd : DatAll news vs (cs.map spD)) (hw : ∀ c ∈ cs, -1 ≤ c.2 ∧ c.2 ≤ 1) {i j : Nat} {C : Bool → Shared → Prop} (hi : i < cs.length) (hj : j < cs.length)
    (h : C (decide (kOf cs i < kOf cs j)) s) : kas_ask prog w A (tuples' (Value.type "int" != Value.type "tuple")) vs i j C s := by
  have get : ∀ k, k < cs.length → ∃ (a : Addr) (n : Nat) (t1 t2 : Tok), vs.getD k Value.none = .ref a ∧ (a, tupOf [.int (cs.getD k (0, 0)).1 t1, .int (cs.getD k (0, 0)).2 t2] n) ∈ news := by
    intro k hk
    obtain ⟨v, hv, hD⟩ := hd.get (k := k) (by simpa using hk)
    have e : (cs.map spD)[k]'(by simpa using hk) = spD (cs.getD k (0, 0)) := by simp [List.getD, hk]
    rw [e] at hD
    obtain ⟨a, n, t1, t2, rfl, hm⟩ := sp_inv hD
    exact ⟨a, n, t1, t2, by simp [List.getD, hv], hm⟩
  have wk : ∀ k, k < cs.length → -1 ≤ (cs.getD k (0, 0)).2 ∧ (cs.getD k (0, 0)).2 ≤ 1 := by
    intro k hk
    have : cs.getD k (0, 0) ∈ cs := by simp [List.getD, hk]
    exact hw _ this
  obtain ⟨a1, n1, t1, t2, e1, m1⟩ := get i hi
  obtain ⟨a2, n2, t3, t4, e2, m2⟩ := get j hj
  have w1 := wk i hi
  have w2 := wk j hj
  unfold kas_ask
  rw [e1, e2]
  revert h
  unfold kOf
  generalize cs.getD i (0, 0) = x at m1 w1
  generalize cs.getD j (0, 0) = y at m2 w2
  intro h
  have hb : (Value.type "int" != Value.type "tuple") = true := by decide
  rw [hb]
  refine kat_lt (N _ m1).1 rfl (N _ m2).1 rfl ?_
  show KatLex prog w A true _ C [(.int x.1 t1, .int y.1 t3), (.int x.2 t2, .int y.2 t4)] 0 s
  refine kat_cons (wpAny_eqBool_int ?_)
  by_cases h1 : x.1 = y.1
  · rw [show (x.1 == y.1) = true by simpa using h1]
    refine kat_yes (kat_cons (wpAny_eqBool_int ?_))
    by_cases h2 : x.2 = y.2
    · rw [show (x.2 == y.2) = true by simpa using h2]
      refine kat_yes (kat_nil ?_)
      have : decide (3 * x.1 + x.2 < 3 * y.1 + y.2) = false := decide_eq_false (by omega)
      rw [this] at h
      exact h
    · rw [show (x.2 == y.2) = false by simpa using h2]
      refine kat_no (kat_one _ _ ?_)
      refine lt_int ?_
      show C (decide (x.2 < y.2)) _
      have : decide (3 * x.1 + x.2 < 3 * y.1 + y.2) = decide (x.2 < y.2) := decide_eq_decide.mpr (by omega)
      rw [this] at h
      exact h
  · rw [show (x.1 == y.1) = false by simpa using h1]
    refine kat_no ?_
    show wpAny (model prog w) A (oneLt' true (.int x.1 t1) (.int y.1 t3)) C _ s
    refine oneLt_int ?_
    have : decide (3 * x.1 + x.2 < 3 * y.1 + y.2) = decide (x.1 < y.1) := decide_eq_decide.mpr (by omega)
    rw [this] at h
    exact h
theorem datAll_pick {vs : List Value} {cs : List (Int × Int)} (hd : DatAll news vs (cs.map spD)) : ∀ l : List Nat, (∀ i ∈ l, i < cs.length) → DatAll news (l.map fun i => vs.getD i Value.none) ((l.map fun i => cs.getD i (0, 0)).map spD)
  | [], _ => .nil
  | i :: l, hl => by
    have hi := hl i (.head _)
    obtain ⟨v, hv, hD⟩ := hd.get (k := i) (by simpa using hi)
    have e : (cs.map spD)[i]'(by simpa using hi) = spD (cs.getD i (0, 0)) := by simp [List.getD, hi]
    rw [e] at hD
    have e2 : vs.getD i Value.none = v := by simp [List.getD, hv]
    rw [List.map_cons, List.map_cons, List.map_cons, e2]
    exact .cons hD (datAll_pick hd l fun j hj => hl j (.tail _ hj))
theorem sorted_pairs {l : Addr} {vs : List Value} {nn : Nat} {cs : List (Int × Int)} {Q : Value → Shared → Prop} (F : Fr h₀ L s.heap m) (N : News h₀ L s.heap news) (hl : (l, listOf vs.toArray nn) ∈ news) (hd : DatAll news vs (cs.map spD)) (hw : ∀ c ∈ cs, -1 ≤ c.2 ∧ c.2 ≤ 1) (h64 : cs.length < 64)
    (h : ∀ D e h' (out : List Value) (os : List (Int × Int)), Fr h₀ L h' m → News h₀ L h' ((D, listOf (List.toArray out) e) :: news) → (∀ q ∈ news, q.1 < D) → DatAll news out (os.map spD) → os.Perm cs → os.Pairwise (fun a b => a.1 ≤ b.1) → Q (.ref D) { s with heap := h' }) :
    wpAny (model prog w) A (call (.builtin "sorted") [.ref l]) Q E s := by
  have hL : s.heap.IsList l vs.toArray := ⟨_, (N _ hl).1, rfl, nn, rfl⟩
  have hlen : vs.length = cs.length := by rw [DatAll.length hd, List.length_map]
  by_cases h2 : vs.length < 2
  · refine short_sorted F N hL h2 fun D e h' F' N' hb => h D e h' vs cs F' N' hb hd (List.Perm.refl _) ?_
    rcases cs with _ | ⟨c, cs⟩
    · exact .nil
    · have h9 : cs = [] := List.eq_nil_of_length_eq_zero (by simp only [List.length_cons] at hlen; omega)
      subst h9; exact .cons (fun _ h => nomatch h) .nil
  · refine kat_sorted F N hL (by omega) (by omega) fun D e1 h' F' N' hb => ?_
    have N2 : News h₀ L h' news := fun p hp => N' p (.tail _ hp)
    obtain ⟨fs, hfl, hfi, ht⟩ := dat_firsts N2 hd
    refine kat_kind (s := { s with heap := h' }) (T := .type "int") ht (by omega) (fun v hv => ?_) (by decide) ?_
    · obtain ⟨i, t, rfl⟩ := hfi v hv
      exact Looks.of_pure rfl
    · rw [hlen]
      refine sort_ok (key := kOf cs) (s := { s with heap := h' }) (fun i j C hi hj hC => ask_pairs (s := { s with heap := h' }) N2 hd hw hi hj hC) (by omega) fun p hp hs => ?_
      refine KasFin.intro F' N' (UpdF.head fun q hq => Nat.ne_of_lt (hb q hq)) fun h'' c F'' N'' => ?_
      have hpl : p.toList.Perm (List.range cs.length) := Array.perm_iff_toList_perm.mp hp
      refine h D c h'' _ _ F'' N'' hb (datAll_pick hd p.toList fun i hi => by simpa using hpl.mem_iff.mp hi) ?_ ?_
      · have hx : ((List.range cs.length).map fun i => cs.getD i (0, 0)) = cs := by
          apply List.ext_getElem
          · simp
          · intro i h1 h2
            simp [List.getD, h2]
        have := hpl.map fun i => cs.getD i (0, 0)
        rw [hx] at this
        exact this
      · rw [List.pairwise_map]
        refine List.pairwise_iff_getElem.mpr fun i j hi hj hij => ?_
        have hps := Pm.size hp
        have hi' : i < p.size := by simpa using hi
        have hj' : j < p.size := by simpa using hj
        have key := hs i j (Nat.le_of_lt hij) (by omega)
        unfold KP at key
        have e1 : p.getD i 0 = p.toList[i] := by simp [Array.getD, hi']
        have e2 : p.getD j 0 = p.toList[j] := by simp [Array.getD, hj']
        rw [e1, e2] at key
        have r : ∀ k (hk : k < p.toList.length), -1 ≤ (cs.getD p.toList[k] (0, 0)).2 ∧ (cs.getD p.toList[k] (0, 0)).2 ≤ 1 := by
          intro k hk
          have hb : p.toList[k] < cs.length := by simpa using hpl.mem_iff.mp (List.getElem_mem hk)
          have : cs.getD p.toList[k] (0, 0) ∈ cs := getD_mem hb
          exact hw _ this
        have r1 := r i hi
        have r2 := r j hj
        unfold kOf at key
        omega
end
end
section
noncomputable def SDok (sd : SD) : Prop := -100 ≤ sd.x1 ∧ sd.x1 ≤ 100 ∧ -100 ≤ sd.x2 ∧ sd.x2 ≤ 100 ∧ -100 ≤ sd.y1 ∧ sd.y1 < sd.y2 ∧ sd.y2 ≤ 100
noncomputable def numOf' (sd : SD) (y : Int) : Int := sd.x1 * (sd.y2 - sd.y1) + (sd.x2 - sd.x1) * (y - sd.y1)
noncomputable def colOf (sd : SD) (y step : Int) : Int := 0 - Int.fdiv (0 - (2 * numOf' sd y - step * (sd.y2 - sd.y1))) (2 * step * (sd.y2 - sd.y1))
noncomputable def covB (sd : SD) (y : Int) : Bool := decide (sd.y1 ≤ y ∧ y < sd.y2)
noncomputable def stepsOf (sds : List SD) (y step : Int) : List (Int × Int) := (sds.filter fun sd => covB sd y).map fun sd => (colOf sd y step, sd.way)
theorem stepsOf_yes {sds : List SD} {i : Nat} {sd : SD} {y step : Int} (h : sds[i]? = some sd) (hc : sd.y1 ≤ y ∧ y < sd.y2) : stepsOf (sds.take (i + 1)) y step = stepsOf (sds.take i) y step ++ [(colOf sd y step, sd.way)] := by
  unfold stepsOf
  rw [List.take_add_one, h]
  simp [covB, hc]
theorem stepsOf_no {sds : List SD} {i : Nat} {sd : SD} {y step : Int} (h : sds[i]? = some sd) (hc : ¬ (sd.y1 ≤ y ∧ y < sd.y2)) : stepsOf (sds.take (i + 1)) y step = stepsOf (sds.take i) y step := by
  unfold stepsOf
  rw [List.take_add_one, h]
  simp [covB, hc]
theorem stepsOf_len {sds : List SD} {y step : Int} : (stepsOf sds y step).length ≤ sds.length := by
  unfold stepsOf
  rw [List.length_map]
  exact List.length_filter_le _ _
theorem stepsOf_way {sds : List SD} {y step : Int} (hway : ∀ sd ∈ sds, -1 ≤ sd.way ∧ sd.way ≤ 1) : ∀ c ∈ stepsOf sds y step, -1 ≤ c.2 ∧ c.2 ≤ 1 := by
  intro c hc
  unfold stepsOf at hc
  obtain ⟨sd, hsd, rfl⟩ := List.mem_map.mp hc
  exact hway sd (List.mem_filter.mp hsd).1
set_option maxHeartbeats 4000000 in
theorem tel_steps {l : Addr} {vs : List Value} {nn : Nat} {sds : List SD} {y step : Int} {t u : Nat} (hok : ∀ sd ∈ sds, SDok sd) (hy : -100 ≤ y ∧ y ≤ 100) (hs : step = 2 ∨ step = 4 ∨ step = 6) (hway : ∀ sd ∈ sds, -1 ≤ sd.way ∧ sd.way ≤ 1) (h64 : sds.length < 64) :
    Tel 117 32 256 [.ref l, .int y t, .int step u] (fun news => (l, listOf vs.toArray nn) ∈ news ∧ All2 (SideIn news) vs sds) (fun news r => ∃ (D : Addr) (out : List Value) (e : Nat) (os : List (Int × Int)), r = .ref D ∧ (D, listOf (List.toArray out) e) ∈ news ∧ DatAll news out (os.map spD) ∧ os.Perm (stepsOf sds y step) ∧ os.Pairwise (fun a b => a.1 ≤ b.1)) := by
  k_with_none
  k_with "call builtin:len" => (k_here; (with_reducible show wpAny _ _ (call (Value.builtin "len") [Value.ref _]) _ _ _); k_dflt (refine' len_led (by k_asm) (by k_mem) (by ((try simp only [List.length_append, List.length_cons, List.length_nil]); omega)) ?_; k_whole))
  k_with "subscriptTail" => (k_here; (with_reducible show wpAny _ _ (subscriptTail _ _ (Value.ref _) (Value.int _ _)) _ _ _); k_dflt (refine' item_led (by k_asm) (by k_mem) (by omega) (by omega) (by with_reducible assumption) ?_ (by with_unfolding_all rfl); k_whole))
  k_with "call ref" => (k_here; k_dflt (refine' Tel.useR (by k_asm) (by k_asm) (by k_asm) (by k_asm) (by k_asm) (by first | exact rfl | assumption) (by (first | assumption | (refine' SideIn.mono (by assumption) (by exact (fun p9 hp9 => by simp only [List.mem_append, List.mem_cons, hp9, true_or, or_true]))))) (tel_covers) (by ktr_room) (by ktr_units) ?_); intro r9kw tl9kw h9kw tk9kw F9kw N9kw hl9kw ho9kw; (try simp only [List.cons_append, List.nil_append, List.append_assoc] at N9kw ho9kw); (try simp only [List.forall_mem_cons, List.forall_mem_append, List.cons_append, List.nil_append, List.not_mem_nil, false_implies, implies_true, and_true] at hl9kw); (repeat' (obtain ⟨_, hl9kw⟩ := hl9kw)); subst ho9kw; skip; (try dsimp only); (try k_fold))
  k_with "call ref" => (k_here; k_dflt (refine' Tel.useR (by k_asm) (by k_asm) (by k_asm) (by k_asm) (by k_asm) (by first | exact rfl | assumption) (by (first | assumption | (refine' SideIn.mono (by assumption) (by exact (fun p9 hp9 => by simp only [List.mem_append, List.mem_cons, hp9, true_or, or_true]))))) (tel_place_at (by omega) (by omega)) (by ktr_room) (by ktr_units) ?_); intro r9kw tl9kw h9kw tk9kw F9kw N9kw hl9kw ho9kw; (try simp only [List.cons_append, List.nil_append, List.append_assoc] at N9kw ho9kw); (try simp only [List.forall_mem_cons, List.forall_mem_append, List.cons_append, List.nil_append, List.not_mem_nil, false_implies, implies_true, and_true] at hl9kw); (repeat' (obtain ⟨_, hl9kw⟩ := hl9kw)); skip; (try dsimp only); (try k_fold))
  k_with "call ref" => (k_here; k_dflt (refine' Tel.useR (by k_asm) (by k_asm) (by k_asm) (by k_asm) (by k_asm) (by first | exact rfl | assumption) (by assumption) (tel_column_behind (by omega) (by assumption)) (by ktr_room) (by ktr_units) ?_); intro r9kw tl9kw h9kw tk9kw F9kw N9kw hl9kw ho9kw; (try simp only [List.cons_append, List.nil_append, List.append_assoc] at N9kw ho9kw); (try simp only [List.forall_mem_cons, List.forall_mem_append, List.cons_append, List.nil_append, List.not_mem_nil, false_implies, implies_true, and_true] at hl9kw); (repeat' (obtain ⟨_, hl9kw⟩ := hl9kw)); obtain ⟨k9kw, e9kw⟩ := ho9kw; subst e9kw; (try dsimp only); (try k_fold))
  k_with "exec For Name Name cons nil" => (k_here; k_dflt (refine' For_at ?_ (by intro _; with_unfolding_all rfl)))
  intro prog w p loose mean mg mb dp un gd cn cs a ccd cl outer A₀ base h₀ L m news s Q E B F X N T hk hP hd hu hret
  obtain ⟨hl, hvs⟩ := hP
  (refine wpAny_call ?_; k_dflt ktr_enter)
  k_steps
  (have r9kw := trivial; have tl9kw := trivial; have h9kw := trivial; have tk9kw := trivial; have F9kw := trivial; have N9kw := trivial; have hl9kw := trivial; have ho9kw := trivial; have k9kw := trivial; have e9kw := trivial; rename_i g1 L1 hh0 FG1 B1 X1 T1 lF hh1 l1 hh2 F1 N1; clear r9kw tl9kw h9kw tk9kw F9kw N9kw hl9kw ho9kw k9kw e9kw)
  refine iter_list (σ := List Value × Nat × List (Int × Int)) (fun c => [(lF, listOf c.1.toArray c.2.1)]) news (fun _ => []) ["side"] [lF]
    (fun i S c => DatAll S c.1 (c.2.2.map spD) ∧ c.2.2 = stepsOf (sds.take i) y step) ([], 0, []) rfl hl (fun v _ => GoOk.name) F1 N1 (fun p hp => hp) (fun _ => rfl) (fun p hp a ha => by
      rw [List.mem_singleton.mp ha]; exact Nat.ne_of_lt (l1 p hp)) (fun _ hp => nomatch hp) ⟨.nil, rfl⟩ (by passes_own) ?_ ?_
  · intro i v c S u h tk own hv hP hcst hoff F' N' QL hQL
    obtain ⟨cv, cn, cl⟩ := c
    obtain ⟨hD, hC⟩ := hP
    dsimp only at hD hC F' N'
    obtain ⟨sd, hsd, hSI⟩ := hvs.get hv
    replace hSI := hSI.mono hcst
    have hsok := hok sd (List.mem_of_getElem? hsd)
    unfold SDok at hsok
    have hoffS : ∀ p ∈ S, p.1 ≠ lF := fun p hp => hoff p (List.mem_append_left _ hp) lF (.head _)
    have hoffO : ∀ p ∈ own, p.1 ≠ lF := fun p hp => hoff p (List.mem_append_right _ hp) lF (.head _)
    clear hoff
    have hlen : cv.length ≤ 64 := by
      rw [hD.length, List.length_map, hC]
      unfold stepsOf
      rw [List.length_map]
      exact Nat.le_trans (List.length_filter_le _ _) (by rw [List.length_take]; omega)
    have hSI2 := hSI
    obtain ⟨sx, sdd, g1, g2, g3, g4, g5, k1, k2, k3, k4, k5, t1, t2, t3, t4, t5, rfl, sm1, sm2⟩ := hSI2
    simp only [List.cons_append, List.nil_append] at N'
    k_steps
    · (have r9kw := trivial; have tl9kw := trivial; have h9kw := trivial; have tk9kw := trivial; have F9kw := trivial; have N9kw := trivial; have hl9kw := trivial; have ho9kw := trivial; have k9kw := trivial; have e9kw := trivial; rename_i D1 _ _ _ _ _ _ _ _ F4 N4; clear r9kw tl9kw h9kw tk9kw F9kw N9kw hl9kw ho9kw k9kw e9kw)
      (try simp only [List.push_toArray] at N4)
      refine hQL _ _ (lpost_next (cv ++ [.ref D1], cn + 1, cl ++ [(colOf sd y step, sd.way)]) [(D1, ?ob)] F4 N4 ?sub ?own ?ord ?ps ?rest ?P)
      (case sub => ((try dsimp only); (repeat' (first | (refine List.forall_mem_append.mpr ⟨?_, ?_⟩) | (refine List.forall_mem_cons.mpr ⟨?_, ?_⟩) | exact List.forall_mem_nil _ | exact (fun p9 hp9 => by simp only [List.mem_append, List.mem_cons, hp9, true_or, or_true]) | k_mem)))); (case own => ((try dsimp only); (repeat' (first | (refine List.forall_mem_append.mpr ⟨?_, ?_⟩) | (refine List.forall_mem_cons.mpr ⟨?_, ?_⟩) | exact List.forall_mem_nil _ | exact (fun p9 hp9 => by simp only [List.mem_append, List.mem_cons, hp9, true_or, or_true]) | k_mem)))); (case ord => ((try dsimp only); (try simp only [List.forall_mem_cons, List.forall_mem_append, List.cons_append, List.nil_append, List.not_mem_nil, false_implies, implies_true, and_true, forall_and, imp_and]); (repeat' (apply And.intro)); all_goals (first | assumption | (refine ltN ?_; omega) | exact (fun _ _ => List.forall_mem_nil _)))); (case ps => ((try dsimp only); (repeat' (first | exact List.forall_mem_nil _ | (refine List.forall_mem_cons.mpr ⟨?_, ?_⟩) | rfl | (with_unfolding_all rfl))))); (case rest => (intro z9 h8 h9; (try simp only [List.forall_mem_cons, List.not_mem_nil, false_implies, implies_true, and_true, ne_eq] at h8); simp only [List.contains_cons, List.contains_nil, Bool.or_false, Bool.or_eq_false_iff, beq_eq_false_iff_ne, ne_eq] at h9; simp [frm, kstB, h8, h9]))
      (case P =>
        refine ⟨?_, ?_⟩
        · dsimp only
          rw [List.map_append]
          exact (DatAll.mono (fun p hp => List.mem_append_left _ hp) hD).append (.one (.tuple (List.mem_append_right _ (.head _)) (.cons (.int _ _) (.cons (.int _ _) .nil))))
        · dsimp only
          rw [hC]
          exact (stepsOf_yes hsd (by assumption)).symm)
    · (have r9kw := trivial; have tl9kw := trivial; have h9kw := trivial; have tk9kw := trivial; have F9kw := trivial; have N9kw := trivial; have hl9kw := trivial; have ho9kw := trivial; have k9kw := trivial; have e9kw := trivial; rename_i F4 N4 _ _ _ hnc; clear r9kw tl9kw h9kw tk9kw F9kw N9kw hl9kw ho9kw k9kw e9kw)
      refine hQL _ _ (lpost_next (cv, cn, cl) [] (by assumption) (by assumption) ?sub ?own ?ord ?ps ?rest ?P)
      (case sub => ((try dsimp only); (repeat' (first | (refine List.forall_mem_append.mpr ⟨?_, ?_⟩) | (refine List.forall_mem_cons.mpr ⟨?_, ?_⟩) | exact List.forall_mem_nil _ | exact (fun p9 hp9 => by simp only [List.mem_append, List.mem_cons, hp9, true_or, or_true]) | k_mem)))); (case own => ((try dsimp only); (repeat' (first | (refine List.forall_mem_append.mpr ⟨?_, ?_⟩) | (refine List.forall_mem_cons.mpr ⟨?_, ?_⟩) | exact List.forall_mem_nil _ | exact (fun p9 hp9 => by simp only [List.mem_append, List.mem_cons, hp9, true_or, or_true]) | k_mem)))); (case ord => ((try dsimp only); (try simp only [List.forall_mem_cons, List.forall_mem_append, List.cons_append, List.nil_append, List.not_mem_nil, false_implies, implies_true, and_true, forall_and, imp_and]); (repeat' (apply And.intro)); all_goals (first | assumption | (refine ltN ?_; omega) | exact (fun _ _ => List.forall_mem_nil _)))); (case ps => ((try dsimp only); (repeat' (first | exact List.forall_mem_nil _ | (refine List.forall_mem_cons.mpr ⟨?_, ?_⟩) | rfl | (with_unfolding_all rfl))))); (case rest => (intro z9 h8 h9; (try simp only [List.forall_mem_cons, List.not_mem_nil, false_implies, implies_true, and_true, ne_eq] at h8); simp only [List.contains_cons, List.contains_nil, Bool.or_false, Bool.or_eq_false_iff, beq_eq_false_iff_ne, ne_eq] at h9; simp [frm, kstB, h8, h9]))
      (case P =>
        refine ⟨?_, ?_⟩
        · dsimp only
          rw [List.append_nil]
          exact hD
        · dsimp only
          rw [hC]
          exact (stepsOf_no hsd (by assumption)).symm)
  · intro c tl u h tk hP hord F' N'
    obtain ⟨cv, cn, cl⟩ := c
    obtain ⟨hD, hC⟩ := hP
    dsimp only at hD hC F' N' hord
    have hlen : vs.length = sds.length := hvs.length
    rw [hlen, List.take_length] at hC
    simp only [List.cons_append, List.nil_append] at N'
    simp only [List.forall_mem_cons, List.forall_mem_append, List.cons_append, List.nil_append] at hord
    obtain ⟨ho1, ho2⟩ := hord
    k_steps
    refine sorted_pairs (nn := cn) (vs := cv) (cs := cl) F' N' (.head _) (DatAll.mono (fun p9 hp9 => by simp only [List.mem_append, List.mem_cons, hp9, true_or, or_true]) hD) (by rw [hC]; exact stepsOf_way hway) (by rw [hC]; exact Nat.lt_of_le_of_lt stepsOf_len h64) fun D e h'' out os F'' N'' hb hDo hperm hpair => ?_
    simp only [allb_cons, List.forall_mem_append] at hb
    obtain ⟨hb1, hb2, hb3⟩ := hb
    k_steps
    refine hret _ ((D, listOf out.toArray e) :: (lF, listOf cv.toArray cn) :: tl) _ _ (by k_asm) (nwX (by k_asm) ?sub) ?ord ?out
    (case sub => ((try dsimp only); (repeat' (first | (refine List.forall_mem_append.mpr ⟨?_, ?_⟩) | (refine List.forall_mem_cons.mpr ⟨?_, ?_⟩) | exact List.forall_mem_nil _ | exact (fun p9 hp9 => by simp only [List.mem_append, List.mem_cons, hp9, true_or, or_true]) | k_mem))))
    (case ord => ((try dsimp only); (try simp only [List.forall_mem_cons, List.forall_mem_append, List.cons_append, List.nil_append, List.not_mem_nil, false_implies, implies_true, and_true, forall_and, imp_and]); (repeat' (apply And.intro)); all_goals (first | assumption | (refine ltN ?_; omega) | exact (fun _ _ => List.forall_mem_nil _))))
    (case out => exact ⟨D, out, e, os, rfl, List.mem_append_right _ (.head _), DatAll.mono (fun p hp => by simp only [List.mem_append, List.mem_cons] at hp ⊢; grind) hDo, by rw [← hC]; exact hperm, hpair⟩)
end
section
/-- the spans' state: found, winding, begin -/
noncomputable abbrev SpSt := List (Int × Int) × Int × Option Int
noncomputable def spRec (nz : Bool) : List (Int × Int) → SpSt → SpSt
  | [], st => st
  | (col, way) :: rest, (f, wd, b) =>
    if rest.head?.map (·.1) = some col then spRec nz rest (f, wd + way, b)
    else if insideB nz (wd + way) = true then spRec nz rest (f, wd + way, some (b.getD col))
    else match b with
      | some b => spRec nz rest (f ++ [(b, col)], wd + way, none)
      | none => spRec nz rest (f, wd + way, none)
theorem spRec_same {nz : Bool} {col way : Int} {rest : List (Int × Int)} {f : List (Int × Int)} {wd : Int} {b : Option Int} (h : rest.head?.map (·.1) = some col) : spRec nz ((col, way) :: rest) (f, wd, b) = spRec nz rest (f, wd + way, b) := by
  show (if _ then _ else _) = _; rw [if_pos h]
theorem spRec_in {nz : Bool} {col way : Int} {rest : List (Int × Int)} {f : List (Int × Int)} {wd : Int} {b : Option Int} (h : ¬ rest.head?.map (·.1) = some col) (hi : insideB nz (wd + way) = true) : spRec nz ((col, way) :: rest) (f, wd, b) = spRec nz rest (f, wd + way, some (b.getD col)) := by
  show (if _ then _ else _) = _; rw [if_neg h, if_pos hi]
theorem spRec_out {nz : Bool} {col way : Int} {rest : List (Int × Int)} {f : List (Int × Int)} {wd : Int} (h : ¬ rest.head?.map (·.1) = some col) (hi : insideB nz (wd + way) = false) : spRec nz ((col, way) :: rest) (f, wd, none) = spRec nz rest (f, wd + way, none) := by
  show (if _ then _ else _) = _; rw [if_neg h, if_neg (by simp [hi])]
theorem spRec_end {nz : Bool} {col way : Int} {rest : List (Int × Int)} {f : List (Int × Int)} {wd b : Int} (h : ¬ rest.head?.map (·.1) = some col) (hi : insideB nz (wd + way) = false) : spRec nz ((col, way) :: rest) (f, wd, some b) = spRec nz rest (f ++ [(b, col)], wd + way, none) := by
  show (if _ then _ else _) = _; rw [if_neg h, if_neg (by simp [hi])]
noncomputable abbrev optV (b : Option Int) (t : Nat) : Value := match b with | none => .none | some b => .int b t
set_option maxHeartbeats 4000000 in
theorem tel_spans {l : Addr} {vs : List Value} {nn : Nat} {chs : List (Int × Int)} {nz : Bool} {u0 : Nat} (h64 : chs.length < 64) :
    Tel 124 32 256 [.ref l, ruleV nz u0] (fun news => (l, listOf vs.toArray nn) ∈ news ∧ DatAll news vs (chs.map spD)) (fun news r => ∃ (D : Addr) (out : List Value) (e : Nat), r = .ref D ∧ (D, listOf (List.toArray out) e) ∈ news ∧ DatAll news out ((spRec nz chs ([], 0, none)).1.map spD)) := by
  k_with_none
  k_with "call builtin:len" => (k_here; (with_reducible show wpAny _ _ (call (Value.builtin "len") [Value.ref _]) _ _ _); k_dflt (refine' len_led (by k_asm) (by k_mem) (by ((try simp only [List.length_append, List.length_cons, List.length_nil]); omega)) ?_; k_whole))
  k_with "subscriptTail" => (k_here; (with_reducible show wpAny _ _ (subscriptTail _ _ (Value.ref _) (Value.int _ _)) _ _ _); k_dflt (refine' item_led (by k_asm) (by k_mem) (by omega) (by omega) (by with_reducible assumption) ?_ (by with_unfolding_all rfl); k_whole))
  k_with "call ref" => (k_here; k_dflt (refine' Tel.useR (by k_asm) (by k_asm) (by k_asm) (by k_asm) (by k_asm) (by first | exact rfl | assumption) (by trivial) (tel_is_inside) (by ktr_room) (by ktr_units) ?_); intro r9kw tl9kw h9kw tk9kw F9kw N9kw hl9kw ho9kw; (try simp only [List.cons_append, List.nil_append, List.append_assoc] at N9kw ho9kw); (try simp only [List.forall_mem_cons, List.forall_mem_append, List.cons_append, List.nil_append, List.not_mem_nil, false_implies, implies_true, and_true] at hl9kw); (repeat' (obtain ⟨_, hl9kw⟩ := hl9kw)); subst ho9kw; skip; (try dsimp only); (try k_fold))
  k_with "exec For Tuple Call cons nil" => (k_here; k_dflt (refine' For_at ?_ (by intro _; with_unfolding_all rfl)))
  k_with "exec If" => (k_here; (have mk9 : StopIf := by with_reducible assumption); clear mk9; refine stopHere ?_)
  intro prog w p loose mean mg mb dp un gd cn cs a ccd cl outer A₀ base h₀ L m news s Q E B F X N T hk hP hd hu hret
  obtain ⟨hl, hvs⟩ := hP
  (refine wpAny_call ?_; k_dflt ktr_enter)
  k_steps
  (have r9kw := trivial; have tl9kw := trivial; have h9kw := trivial; have tk9kw := trivial; have F9kw := trivial; have N9kw := trivial; have hl9kw := trivial; have ho9kw := trivial; rename_i g1 L1 hh0 FG1 B1 X1 T1 tk1 lF hh1 l1 D1 hh2 l2 l3 hh3 hh4 hh5 hh6 F1 N1; clear r9kw tl9kw h9kw tk9kw F9kw N9kw hl9kw ho9kw)
  refine enum_list (σ := (List Value × Nat × Nat × Nat) × SpSt) (fun c => [(lF, listOf c.1.1.toArray c.1.2.1)]) news (fun c => [("winding", .int c.2.2.1 c.1.2.2.1), ("begin", optV c.2.2.2 c.1.2.2.2)]) ["at", "column", "way"] [lF]
    (fun i S c => DatAll S c.1.1 (c.2.1.map spD) ∧ c.2.1.length ≤ i ∧ spRec nz (chs.drop i) c.2 = spRec nz chs ([], 0, none)) (([], 0, tk1, 0), ([], 0, none)) rfl hl F1 N1 (by ((try dsimp only); (repeat' (first | (refine List.forall_mem_append.mpr ⟨?_, ?_⟩) | (refine List.forall_mem_cons.mpr ⟨?_, ?_⟩) | exact List.forall_mem_nil _ | exact (fun p9 hp9 => by simp only [List.mem_append, List.mem_cons, hp9, true_or, or_true]) | k_mem)))) (fun _ => rfl) (fun p hp a ha => by
      rw [List.mem_singleton.mp ha]; exact Nat.ne_of_lt (l1 p hp)) (by ((try dsimp only); (repeat' (first | exact List.forall_mem_nil _ | (refine List.forall_mem_cons.mpr ⟨?_, ?_⟩) | rfl | (with_unfolding_all rfl))))) ⟨.nil, Nat.le_refl _, rfl⟩ (by passes_own) ?_ ?_
  · intro i v c S u h tk own T t hv hT hP hcst hoff F' N' QL hQL
    obtain ⟨⟨cv, cnn, tw, tb⟩, f, wd, b⟩ := c
    obtain ⟨hD, hlen, hrec⟩ := hP
    dsimp only at hD hlen hrec F' N'
    have hoffS : ∀ p ∈ S, p.1 ≠ lF := fun p hp => hoff p (List.mem_append_left _ hp) lF (.head _)
    have hoffO : ∀ p ∈ own, p.1 ≠ lF := fun p hp => hoff p (List.mem_append_right _ hp) lF (.head _)
    clear hoff
    obtain ⟨⟨col, way⟩, hcw, hI⟩ := dat_of hvs hv
    have hil := (List.getElem?_eq_some_iff.mp hcw).1
    have hvl : vs.length = chs.length := by rw [DatAll.length hvs, List.length_map]
    have hfl : cv.length < 64 := by rw [DatAll.length hD, List.length_map]; omega
    have hdrop : chs.drop i = (col, way) :: chs.drop (i + 1) := by
      rw [List.drop_eq_getElem_cons hil]
      rw [List.getElem?_eq_getElem hil] at hcw
      rw [Option.some.inj hcw]
    rw [hdrop] at hrec
    have hhd : (chs.drop (i + 1)).head? = chs[i + 1]? := List.head?_drop
    obtain ⟨a1, n1, t1, t2, rfl, m1⟩ := sp_inv hI
    replace m1 := hcst _ m1
    have hl' := hcst _ hl
    simp only [List.cons_append, List.nil_append] at N'
    have stop9 : StopIf := trivial
    k_steps
    clear stop9
    refine StopAt.go ?_
    rcases hnx : chs[i + 1]? with _ | ⟨col2, way2⟩
    · have hno : chs.length ≤ i + 1 := List.getElem?_eq_none_iff.mp hnx
      have hne : ¬ (chs.drop (i + 1)).head?.map (·.1) = some col := by rw [hhd, hnx]; simp
      rcases b with _ | b0
      · k_steps
        · (refine' hQL _ _ (lpost_next ((cv, cnn, _, _), (f, wd + way, some (Option.getD none col))) ([]) ?fr1 ?nw1 ?sub1 ?own1 ?ord1 ?ps1 ?rest1 ?P1); (case fr1 => k_asm); (case nw1 => k_asm); (case sub1 => ((try dsimp only); (repeat' (first | (refine List.forall_mem_append.mpr ⟨?_, ?_⟩) | (refine List.forall_mem_cons.mpr ⟨?_, ?_⟩) | exact List.forall_mem_nil _ | exact (fun p9 hp9 => by simp only [List.mem_append, List.mem_cons, hp9, true_or, or_true]) | k_mem)))); (case own1 => ((try dsimp only); (repeat' (first | (refine List.forall_mem_append.mpr ⟨?_, ?_⟩) | (refine List.forall_mem_cons.mpr ⟨?_, ?_⟩) | exact List.forall_mem_nil _ | exact (fun p9 hp9 => by simp only [List.mem_append, List.mem_cons, hp9, true_or, or_true]) | k_mem)))); (case ord1 => ((try dsimp only); (try simp only [List.forall_mem_cons, List.forall_mem_append, List.cons_append, List.nil_append, List.not_mem_nil, false_implies, implies_true, and_true, forall_and, imp_and]); (repeat' (apply And.intro)); all_goals (first | assumption | (refine ltN ?_; omega) | exact (fun _ _ => List.forall_mem_nil _)))); (case ps1 => ((try dsimp only); (repeat' (first | exact List.forall_mem_nil _ | (refine List.forall_mem_cons.mpr ⟨?_, ?_⟩) | rfl | (with_unfolding_all rfl))))); (case rest1 => (intro z9 h8 h9; (try simp only [List.forall_mem_cons, List.not_mem_nil, false_implies, implies_true, and_true, ne_eq] at h8); simp only [List.contains_cons, List.contains_nil, Bool.or_false, Bool.or_eq_false_iff, beq_eq_false_iff_ne, ne_eq] at h9; simp [frm, kstB, h8, h9])); (case P1 => (exact ⟨by rw [List.append_nil]; exact hD, by dsimp only; omega, by rw [← hrec]; exact (spRec_in (b := none) hne (by assumption)).symm⟩)))
        · (refine' hQL _ _ (lpost_next ((cv, cnn, _, _), (f, wd + way, none)) ([]) ?fr2 ?nw2 ?sub2 ?own2 ?ord2 ?ps2 ?rest2 ?P2); (case fr2 => k_asm); (case nw2 => k_asm); (case sub2 => ((try dsimp only); (repeat' (first | (refine List.forall_mem_append.mpr ⟨?_, ?_⟩) | (refine List.forall_mem_cons.mpr ⟨?_, ?_⟩) | exact List.forall_mem_nil _ | exact (fun p9 hp9 => by simp only [List.mem_append, List.mem_cons, hp9, true_or, or_true]) | k_mem)))); (case own2 => ((try dsimp only); (repeat' (first | (refine List.forall_mem_append.mpr ⟨?_, ?_⟩) | (refine List.forall_mem_cons.mpr ⟨?_, ?_⟩) | exact List.forall_mem_nil _ | exact (fun p9 hp9 => by simp only [List.mem_append, List.mem_cons, hp9, true_or, or_true]) | k_mem)))); (case ord2 => ((try dsimp only); (try simp only [List.forall_mem_cons, List.forall_mem_append, List.cons_append, List.nil_append, List.not_mem_nil, false_implies, implies_true, and_true, forall_and, imp_and]); (repeat' (apply And.intro)); all_goals (first | assumption | (refine ltN ?_; omega) | exact (fun _ _ => List.forall_mem_nil _)))); (case ps2 => ((try dsimp only); (repeat' (first | exact List.forall_mem_nil _ | (refine List.forall_mem_cons.mpr ⟨?_, ?_⟩) | rfl | (with_unfolding_all rfl))))); (case rest2 => (intro z9 h8 h9; (try simp only [List.forall_mem_cons, List.not_mem_nil, false_implies, implies_true, and_true, ne_eq] at h8); simp only [List.contains_cons, List.contains_nil, Bool.or_false, Bool.or_eq_false_iff, beq_eq_false_iff_ne, ne_eq] at h9; simp [frm, kstB, h8, h9])); (case P2 => (exact ⟨by rw [List.append_nil]; exact hD, by dsimp only; omega, by rw [← hrec]; exact (spRec_out hne (by assumption)).symm⟩)))
      · k_steps
        · (refine' hQL _ _ (lpost_next ((cv, cnn, _, _), (f, wd + way, some (Option.getD (some b0) col))) ([]) ?fr3 ?nw3 ?sub3 ?own3 ?ord3 ?ps3 ?rest3 ?P3); (case fr3 => k_asm); (case nw3 => k_asm); (case sub3 => ((try dsimp only); (repeat' (first | (refine List.forall_mem_append.mpr ⟨?_, ?_⟩) | (refine List.forall_mem_cons.mpr ⟨?_, ?_⟩) | exact List.forall_mem_nil _ | exact (fun p9 hp9 => by simp only [List.mem_append, List.mem_cons, hp9, true_or, or_true]) | k_mem)))); (case own3 => ((try dsimp only); (repeat' (first | (refine List.forall_mem_append.mpr ⟨?_, ?_⟩) | (refine List.forall_mem_cons.mpr ⟨?_, ?_⟩) | exact List.forall_mem_nil _ | exact (fun p9 hp9 => by simp only [List.mem_append, List.mem_cons, hp9, true_or, or_true]) | k_mem)))); (case ord3 => ((try dsimp only); (try simp only [List.forall_mem_cons, List.forall_mem_append, List.cons_append, List.nil_append, List.not_mem_nil, false_implies, implies_true, and_true, forall_and, imp_and]); (repeat' (apply And.intro)); all_goals (first | assumption | (refine ltN ?_; omega) | exact (fun _ _ => List.forall_mem_nil _)))); (case ps3 => ((try dsimp only); (repeat' (first | exact List.forall_mem_nil _ | (refine List.forall_mem_cons.mpr ⟨?_, ?_⟩) | rfl | (with_unfolding_all rfl))))); (case rest3 => (intro z9 h8 h9; (try simp only [List.forall_mem_cons, List.not_mem_nil, false_implies, implies_true, and_true, ne_eq] at h8); simp only [List.contains_cons, List.contains_nil, Bool.or_false, Bool.or_eq_false_iff, beq_eq_false_iff_ne, ne_eq] at h9; simp [frm, kstB, h8, h9])); (case P3 => (exact ⟨by rw [List.append_nil]; exact hD, by dsimp only; omega, by rw [← hrec]; exact (spRec_in (b := some b0) hne (by assumption)).symm⟩)))
        · ((have r9kw := trivial; have tl9kw := trivial; have h9kw := trivial; have tk9kw := trivial; have F9kw := trivial; have N9kw := trivial; have hl9kw := trivial; have ho9kw := trivial; rename_i D1 _ _ _ _ _ _ _ F4 N4; clear r9kw tl9kw h9kw tk9kw F9kw N9kw hl9kw ho9kw); (try simp only [List.push_toArray] at N4); (refine' hQL _ _ (lpost_next ((cv ++ [.ref D1], cnn + 1, _, 0), (f ++ [(b0, col)], wd + way, none)) ([(D1, _)]) ?fr4 ?nw4 ?sub4 ?own4 ?ord4 ?ps4 ?rest4 ?P4); (case fr4 => k_asm); (case nw4 => k_asm); (case sub4 => ((try dsimp only); (repeat' (first | (refine List.forall_mem_append.mpr ⟨?_, ?_⟩) | (refine List.forall_mem_cons.mpr ⟨?_, ?_⟩) | exact List.forall_mem_nil _ | exact (fun p9 hp9 => by simp only [List.mem_append, List.mem_cons, hp9, true_or, or_true]) | k_mem)))); (case own4 => ((try dsimp only); (repeat' (first | (refine List.forall_mem_append.mpr ⟨?_, ?_⟩) | (refine List.forall_mem_cons.mpr ⟨?_, ?_⟩) | exact List.forall_mem_nil _ | exact (fun p9 hp9 => by simp only [List.mem_append, List.mem_cons, hp9, true_or, or_true]) | k_mem)))); (case ord4 => ((try dsimp only); (try simp only [List.forall_mem_cons, List.forall_mem_append, List.cons_append, List.nil_append, List.not_mem_nil, false_implies, implies_true, and_true, forall_and, imp_and]); (repeat' (apply And.intro)); all_goals (first | assumption | (refine ltN ?_; omega) | exact (fun _ _ => List.forall_mem_nil _)))); (case ps4 => ((try dsimp only); (repeat' (first | exact List.forall_mem_nil _ | (refine List.forall_mem_cons.mpr ⟨?_, ?_⟩) | rfl | (with_unfolding_all rfl))))); (case rest4 => (intro z9 h8 h9; (try simp only [List.forall_mem_cons, List.not_mem_nil, false_implies, implies_true, and_true, ne_eq] at h8); simp only [List.contains_cons, List.contains_nil, Bool.or_false, Bool.or_eq_false_iff, beq_eq_false_iff_ne, ne_eq] at h9; simp [frm, kstB, h8, h9])); (case P4 => (exact ⟨by dsimp only; rw [List.map_append]; exact (DatAll.mono (fun p hp => List.mem_append_left _ hp) hD).append (.one (.tuple (List.mem_append_right _ (.head _)) (.cons (.int _ _) (.cons (.int _ _) .nil)))), by dsimp only; rw [List.length_append]; simp; omega, by rw [← hrec]; exact (spRec_end hne (by assumption)).symm⟩))))
    · have hyes := (List.getElem?_eq_some_iff.mp hnx).1
      have hq : (chs.drop (i + 1)).head?.map (·.1) = some col2 := by rw [hhd, hnx]; rfl
      obtain ⟨v2, hv2, hI2⟩ := dat_at hvs hnx
      obtain ⟨a2, n2, t3, t4, rfl, m2⟩ := sp_inv hI2
      replace m2 := hcst _ m2
      have hv3 : vs[((i : Int) + 1).toNat]? = some (.ref a2) := by rw [show ((i : Int) + 1).toNat = i + 1 by omega]; exact hv2
      rcases b with _ | b0
      · k_steps
        · (refine' hQL _ _ (lpost_cont ((cv, cnn, _, _), (f, wd + way, none)) ([]) ?fr5 ?nw5 ?sub5 ?own5 ?ord5 ?ps5 ?rest5 ?P5); (case fr5 => k_asm); (case nw5 => k_asm); (case sub5 => ((try dsimp only); (repeat' (first | (refine List.forall_mem_append.mpr ⟨?_, ?_⟩) | (refine List.forall_mem_cons.mpr ⟨?_, ?_⟩) | exact List.forall_mem_nil _ | exact (fun p9 hp9 => by simp only [List.mem_append, List.mem_cons, hp9, true_or, or_true]) | k_mem)))); (case own5 => ((try dsimp only); (repeat' (first | (refine List.forall_mem_append.mpr ⟨?_, ?_⟩) | (refine List.forall_mem_cons.mpr ⟨?_, ?_⟩) | exact List.forall_mem_nil _ | exact (fun p9 hp9 => by simp only [List.mem_append, List.mem_cons, hp9, true_or, or_true]) | k_mem)))); (case ord5 => ((try dsimp only); (try simp only [List.forall_mem_cons, List.forall_mem_append, List.cons_append, List.nil_append, List.not_mem_nil, false_implies, implies_true, and_true, forall_and, imp_and]); (repeat' (apply And.intro)); all_goals (first | assumption | (refine ltN ?_; omega) | exact (fun _ _ => List.forall_mem_nil _)))); (case ps5 => ((try dsimp only); (repeat' (first | exact List.forall_mem_nil _ | (refine List.forall_mem_cons.mpr ⟨?_, ?_⟩) | rfl | (with_unfolding_all rfl))))); (case rest5 => (intro z9 h8 h9; (try simp only [List.forall_mem_cons, List.not_mem_nil, false_implies, implies_true, and_true, ne_eq] at h8); simp only [List.contains_cons, List.contains_nil, Bool.or_false, Bool.or_eq_false_iff, beq_eq_false_iff_ne, ne_eq] at h9; simp [frm, kstB, h8, h9])); (case P5 => (exact ⟨by rw [List.append_nil]; exact hD, by dsimp only; omega, by rw [← hrec]; exact (spRec_same (b := none) (by rw [hq]; exact congrArg some (by assumption))).symm⟩)))
        · (refine' hQL _ _ (lpost_next ((cv, cnn, _, _), (f, wd + way, some (Option.getD none col))) ([]) ?fr6 ?nw6 ?sub6 ?own6 ?ord6 ?ps6 ?rest6 ?P6); (case fr6 => k_asm); (case nw6 => k_asm); (case sub6 => ((try dsimp only); (repeat' (first | (refine List.forall_mem_append.mpr ⟨?_, ?_⟩) | (refine List.forall_mem_cons.mpr ⟨?_, ?_⟩) | exact List.forall_mem_nil _ | exact (fun p9 hp9 => by simp only [List.mem_append, List.mem_cons, hp9, true_or, or_true]) | k_mem)))); (case own6 => ((try dsimp only); (repeat' (first | (refine List.forall_mem_append.mpr ⟨?_, ?_⟩) | (refine List.forall_mem_cons.mpr ⟨?_, ?_⟩) | exact List.forall_mem_nil _ | exact (fun p9 hp9 => by simp only [List.mem_append, List.mem_cons, hp9, true_or, or_true]) | k_mem)))); (case ord6 => ((try dsimp only); (try simp only [List.forall_mem_cons, List.forall_mem_append, List.cons_append, List.nil_append, List.not_mem_nil, false_implies, implies_true, and_true, forall_and, imp_and]); (repeat' (apply And.intro)); all_goals (first | assumption | (refine ltN ?_; omega) | exact (fun _ _ => List.forall_mem_nil _)))); (case ps6 => ((try dsimp only); (repeat' (first | exact List.forall_mem_nil _ | (refine List.forall_mem_cons.mpr ⟨?_, ?_⟩) | rfl | (with_unfolding_all rfl))))); (case rest6 => (intro z9 h8 h9; (try simp only [List.forall_mem_cons, List.not_mem_nil, false_implies, implies_true, and_true, ne_eq] at h8); simp only [List.contains_cons, List.contains_nil, Bool.or_false, Bool.or_eq_false_iff, beq_eq_false_iff_ne, ne_eq] at h9; simp [frm, kstB, h8, h9])); (case P6 => (exact ⟨by rw [List.append_nil]; exact hD, by dsimp only; omega, by rw [← hrec]; exact (spRec_in (b := none) (by rw [hq]; intro h9; exact absurd (Option.some.inj h9) (by assumption)) (by assumption)).symm⟩)))
        · (refine' hQL _ _ (lpost_next ((cv, cnn, _, _), (f, wd + way, none)) ([]) ?fr7 ?nw7 ?sub7 ?own7 ?ord7 ?ps7 ?rest7 ?P7); (case fr7 => k_asm); (case nw7 => k_asm); (case sub7 => ((try dsimp only); (repeat' (first | (refine List.forall_mem_append.mpr ⟨?_, ?_⟩) | (refine List.forall_mem_cons.mpr ⟨?_, ?_⟩) | exact List.forall_mem_nil _ | exact (fun p9 hp9 => by simp only [List.mem_append, List.mem_cons, hp9, true_or, or_true]) | k_mem)))); (case own7 => ((try dsimp only); (repeat' (first | (refine List.forall_mem_append.mpr ⟨?_, ?_⟩) | (refine List.forall_mem_cons.mpr ⟨?_, ?_⟩) | exact List.forall_mem_nil _ | exact (fun p9 hp9 => by simp only [List.mem_append, List.mem_cons, hp9, true_or, or_true]) | k_mem)))); (case ord7 => ((try dsimp only); (try simp only [List.forall_mem_cons, List.forall_mem_append, List.cons_append, List.nil_append, List.not_mem_nil, false_implies, implies_true, and_true, forall_and, imp_and]); (repeat' (apply And.intro)); all_goals (first | assumption | (refine ltN ?_; omega) | exact (fun _ _ => List.forall_mem_nil _)))); (case ps7 => ((try dsimp only); (repeat' (first | exact List.forall_mem_nil _ | (refine List.forall_mem_cons.mpr ⟨?_, ?_⟩) | rfl | (with_unfolding_all rfl))))); (case rest7 => (intro z9 h8 h9; (try simp only [List.forall_mem_cons, List.not_mem_nil, false_implies, implies_true, and_true, ne_eq] at h8); simp only [List.contains_cons, List.contains_nil, Bool.or_false, Bool.or_eq_false_iff, beq_eq_false_iff_ne, ne_eq] at h9; simp [frm, kstB, h8, h9])); (case P7 => (exact ⟨by rw [List.append_nil]; exact hD, by dsimp only; omega, by rw [← hrec]; exact (spRec_out (by rw [hq]; intro h9; exact absurd (Option.some.inj h9) (by assumption)) (by assumption)).symm⟩)))
      · k_steps
        · (refine' hQL _ _ (lpost_cont ((cv, cnn, _, _), (f, wd + way, some b0)) ([]) ?fr8 ?nw8 ?sub8 ?own8 ?ord8 ?ps8 ?rest8 ?P8); (case fr8 => k_asm); (case nw8 => k_asm); (case sub8 => ((try dsimp only); (repeat' (first | (refine List.forall_mem_append.mpr ⟨?_, ?_⟩) | (refine List.forall_mem_cons.mpr ⟨?_, ?_⟩) | exact List.forall_mem_nil _ | exact (fun p9 hp9 => by simp only [List.mem_append, List.mem_cons, hp9, true_or, or_true]) | k_mem)))); (case own8 => ((try dsimp only); (repeat' (first | (refine List.forall_mem_append.mpr ⟨?_, ?_⟩) | (refine List.forall_mem_cons.mpr ⟨?_, ?_⟩) | exact List.forall_mem_nil _ | exact (fun p9 hp9 => by simp only [List.mem_append, List.mem_cons, hp9, true_or, or_true]) | k_mem)))); (case ord8 => ((try dsimp only); (try simp only [List.forall_mem_cons, List.forall_mem_append, List.cons_append, List.nil_append, List.not_mem_nil, false_implies, implies_true, and_true, forall_and, imp_and]); (repeat' (apply And.intro)); all_goals (first | assumption | (refine ltN ?_; omega) | exact (fun _ _ => List.forall_mem_nil _)))); (case ps8 => ((try dsimp only); (repeat' (first | exact List.forall_mem_nil _ | (refine List.forall_mem_cons.mpr ⟨?_, ?_⟩) | rfl | (with_unfolding_all rfl))))); (case rest8 => (intro z9 h8 h9; (try simp only [List.forall_mem_cons, List.not_mem_nil, false_implies, implies_true, and_true, ne_eq] at h8); simp only [List.contains_cons, List.contains_nil, Bool.or_false, Bool.or_eq_false_iff, beq_eq_false_iff_ne, ne_eq] at h9; simp [frm, kstB, h8, h9])); (case P8 => (exact ⟨by rw [List.append_nil]; exact hD, by dsimp only; omega, by rw [← hrec]; exact (spRec_same (b := some b0) (by rw [hq]; exact congrArg some (by assumption))).symm⟩)))
        · (refine' hQL _ _ (lpost_next ((cv, cnn, _, _), (f, wd + way, some (Option.getD (some b0) col))) ([]) ?fr9 ?nw9 ?sub9 ?own9 ?ord9 ?ps9 ?rest9 ?P9); (case fr9 => k_asm); (case nw9 => k_asm); (case sub9 => ((try dsimp only); (repeat' (first | (refine List.forall_mem_append.mpr ⟨?_, ?_⟩) | (refine List.forall_mem_cons.mpr ⟨?_, ?_⟩) | exact List.forall_mem_nil _ | exact (fun p9 hp9 => by simp only [List.mem_append, List.mem_cons, hp9, true_or, or_true]) | k_mem)))); (case own9 => ((try dsimp only); (repeat' (first | (refine List.forall_mem_append.mpr ⟨?_, ?_⟩) | (refine List.forall_mem_cons.mpr ⟨?_, ?_⟩) | exact List.forall_mem_nil _ | exact (fun p9 hp9 => by simp only [List.mem_append, List.mem_cons, hp9, true_or, or_true]) | k_mem)))); (case ord9 => ((try dsimp only); (try simp only [List.forall_mem_cons, List.forall_mem_append, List.cons_append, List.nil_append, List.not_mem_nil, false_implies, implies_true, and_true, forall_and, imp_and]); (repeat' (apply And.intro)); all_goals (first | assumption | (refine ltN ?_; omega) | exact (fun _ _ => List.forall_mem_nil _)))); (case ps9 => ((try dsimp only); (repeat' (first | exact List.forall_mem_nil _ | (refine List.forall_mem_cons.mpr ⟨?_, ?_⟩) | rfl | (with_unfolding_all rfl))))); (case rest9 => (intro z9 h8 h9; (try simp only [List.forall_mem_cons, List.not_mem_nil, false_implies, implies_true, and_true, ne_eq] at h8); simp only [List.contains_cons, List.contains_nil, Bool.or_false, Bool.or_eq_false_iff, beq_eq_false_iff_ne, ne_eq] at h9; simp [frm, kstB, h8, h9])); (case P9 => (exact ⟨by rw [List.append_nil]; exact hD, by dsimp only; omega, by rw [← hrec]; exact (spRec_in (b := some b0) (by rw [hq]; intro h9; exact absurd (Option.some.inj h9) (by assumption)) (by assumption)).symm⟩)))
        · ((have r9kw := trivial; have tl9kw := trivial; have h9kw := trivial; have tk9kw := trivial; have F9kw := trivial; have N9kw := trivial; have hl9kw := trivial; have ho9kw := trivial; rename_i D1 _ _ _ _ _ _ _ F4 N4; clear r9kw tl9kw h9kw tk9kw F9kw N9kw hl9kw ho9kw); (try simp only [List.push_toArray] at N4); (refine' hQL _ _ (lpost_next ((cv ++ [.ref D1], cnn + 1, _, 0), (f ++ [(b0, col)], wd + way, none)) ([(D1, _)]) ?fr10 ?nw10 ?sub10 ?own10 ?ord10 ?ps10 ?rest10 ?P10); (case fr10 => k_asm); (case nw10 => k_asm); (case sub10 => ((try dsimp only); (repeat' (first | (refine List.forall_mem_append.mpr ⟨?_, ?_⟩) | (refine List.forall_mem_cons.mpr ⟨?_, ?_⟩) | exact List.forall_mem_nil _ | exact (fun p9 hp9 => by simp only [List.mem_append, List.mem_cons, hp9, true_or, or_true]) | k_mem)))); (case own10 => ((try dsimp only); (repeat' (first | (refine List.forall_mem_append.mpr ⟨?_, ?_⟩) | (refine List.forall_mem_cons.mpr ⟨?_, ?_⟩) | exact List.forall_mem_nil _ | exact (fun p9 hp9 => by simp only [List.mem_append, List.mem_cons, hp9, true_or, or_true]) | k_mem)))); (case ord10 => ((try dsimp only); (try simp only [List.forall_mem_cons, List.forall_mem_append, List.cons_append, List.nil_append, List.not_mem_nil, false_implies, implies_true, and_true, forall_and, imp_and]); (repeat' (apply And.intro)); all_goals (first | assumption | (refine ltN ?_; omega) | exact (fun _ _ => List.forall_mem_nil _)))); (case ps10 => ((try dsimp only); (repeat' (first | exact List.forall_mem_nil _ | (refine List.forall_mem_cons.mpr ⟨?_, ?_⟩) | rfl | (with_unfolding_all rfl))))); (case rest10 => (intro z9 h8 h9; (try simp only [List.forall_mem_cons, List.not_mem_nil, false_implies, implies_true, and_true, ne_eq] at h8); simp only [List.contains_cons, List.contains_nil, Bool.or_false, Bool.or_eq_false_iff, beq_eq_false_iff_ne, ne_eq] at h9; simp [frm, kstB, h8, h9])); (case P10 => (exact ⟨by dsimp only; rw [List.map_append]; exact (DatAll.mono (fun p hp => List.mem_append_left _ hp) hD).append (.one (.tuple (List.mem_append_right _ (.head _)) (.cons (.int _ _) (.cons (.int _ _) .nil)))), by dsimp only; rw [List.length_append]; simp; omega, by rw [← hrec]; exact (spRec_end (by rw [hq]; intro h9; exact absurd (Option.some.inj h9) (by assumption)) (by assumption)).symm⟩))))
  · intro c tl u h tk hP hord F' N'
    obtain ⟨⟨cv, cnn, tw, tb⟩, f, wd, b⟩ := c
    obtain ⟨hD, hlen, hrec⟩ := hP
    dsimp only at hD hlen hrec F' N' hord
    have hvl : vs.length = chs.length := by rw [DatAll.length hvs, List.length_map]
    rw [hvl, List.drop_length] at hrec
    simp only [List.cons_append, List.nil_append] at N'
    simp only [List.forall_mem_cons, List.forall_mem_append, List.cons_append, List.nil_append] at hord
    obtain ⟨ho1, ho2⟩ := hord
    k_steps
    (refine' hret (_) ((lF, listOf cv.toArray cnn) :: tl) _ _ ?fr11 (nwX ?nw11 ?sub11) ?ord11 ?out11; (case fr11 => k_asm); (case nw11 => k_asm); (case sub11 => ((try dsimp only); (repeat' (first | (refine List.forall_mem_append.mpr ⟨?_, ?_⟩) | (refine List.forall_mem_cons.mpr ⟨?_, ?_⟩) | exact List.forall_mem_nil _ | exact (fun p9 hp9 => by simp only [List.mem_append, List.mem_cons, hp9, true_or, or_true]) | k_mem)))); (case ord11 => ((try dsimp only); (try simp only [List.forall_mem_cons, List.forall_mem_append, List.cons_append, List.nil_append, List.not_mem_nil, false_implies, implies_true, and_true, forall_and, imp_and]); (repeat' (apply And.intro)); all_goals (first | assumption | (refine ltN ?_; omega) | exact (fun _ _ => List.forall_mem_nil _)))); (case out11 => (exact ⟨lF, cv, cnn, rfl, List.mem_append_right _ (.head _), by
          have e : f = (spRec nz chs ([], 0, none)).1 := congrArg (fun x => x.1) hrec
          rw [← e]
          exact DatAll.mono (fun p hp => by simp only [List.mem_append, List.mem_cons] at hp ⊢; grind) hD⟩)))
end
section
set_option maxHeartbeats 4000000 in
theorem tel_sample_spans {l : Addr} {vs : List Value} {nn : Nat} {sds : List SD} {row fine grain : Int} {nz : Bool} {t0 u0 t1 t2 : Nat} (hok : ∀ sd ∈ sds, SDok sd) (hy : -100 ≤ row * Int.fdiv grain fine + Int.fdiv (Int.fdiv grain fine) 2 ∧ row * Int.fdiv grain fine + Int.fdiv (Int.fdiv grain fine) 2 ≤ 100)
    (hr : -1000 ≤ row ∧ row ≤ 1000) (hf : 1 ≤ fine ∧ fine ≤ 3 ∧ 1 ≤ grain ∧ grain ≤ 12) (hfg : Int.fmod grain (2 * fine) = 0) (hs : Int.fdiv grain fine = 2 ∨ Int.fdiv grain fine = 4 ∨ Int.fdiv grain fine = 6) (hway : ∀ sd ∈ sds, -1 ≤ sd.way ∧ sd.way ≤ 1) (h64 : sds.length < 64) :
    Tel 131 64 512 [.ref l, .int row t0, ruleV nz u0, .int fine t1, .int grain t2] (fun news => (l, listOf vs.toArray nn) ∈ news ∧ All2 (SideIn news) vs sds)
      (fun news r => ∃ (D : Addr) (out : List Value) (e : Nat) (os : List (Int × Int)), r = .ref D ∧ (D, listOf (List.toArray out) e) ∈ news ∧ DatAll news out ((spRec nz os ([], 0, none)).1.map spD) ∧
        os.Perm (stepsOf sds (row * Int.fdiv grain fine + Int.fdiv (Int.fdiv grain fine) 2) (Int.fdiv grain fine)) ∧ os.Pairwise (fun a b => a.1 ≤ b.1)) := by
  k_with_none
  k_with "call builtin:len" => (k_here; (with_reducible show wpAny _ _ (call (Value.builtin "len") [Value.ref _]) _ _ _); k_dflt (refine' len_led (by k_asm) (by k_mem) (by ((try simp only [List.length_append, List.length_cons, List.length_nil]); omega)) ?_; k_whole))
  k_with "subscriptTail" => (k_here; (with_reducible show wpAny _ _ (subscriptTail _ _ (Value.ref _) (Value.int _ _)) _ _ _); k_dflt (refine' item_led (by k_asm) (by k_mem) (by omega) (by omega) (by with_reducible assumption) ?_ (by with_unfolding_all rfl); k_whole))
  k_with "call ref" => (k_here; k_dflt (refine' Tel.useR (by k_asm) (by k_asm) (by k_asm) (by k_asm) (by k_asm) (by first | exact rfl | assumption) (by trivial) (tel_check_rule) (by ktr_room) (by ktr_units) ?_); intro r9kw tl9kw h9kw tk9kw F9kw N9kw hl9kw ho9kw; (try simp only [List.cons_append, List.nil_append, List.append_assoc] at N9kw ho9kw); (try simp only [List.forall_mem_cons, List.forall_mem_append, List.cons_append, List.nil_append, List.not_mem_nil, false_implies, implies_true, and_true] at hl9kw); (repeat' (obtain ⟨_, hl9kw⟩ := hl9kw)); subst ho9kw; skip; (try dsimp only); (try k_fold))
  k_with "call ref" => (k_here; k_dflt (refine' Tel.useR (by k_asm) (by k_asm) (by k_asm) (by k_asm) (by k_asm) (by first | exact rfl | assumption) (by trivial) (tel_step_of (by omega) (by assumption)) (by ktr_room) (by ktr_units) ?_); intro r9kw tl9kw h9kw tk9kw F9kw N9kw hl9kw ho9kw; (try simp only [List.cons_append, List.nil_append, List.append_assoc] at N9kw ho9kw); (try simp only [List.forall_mem_cons, List.forall_mem_append, List.cons_append, List.nil_append, List.not_mem_nil, false_implies, implies_true, and_true] at hl9kw); (repeat' (obtain ⟨_, hl9kw⟩ := hl9kw)); obtain ⟨k9kw, e9kw⟩ := ho9kw; subst e9kw; (try dsimp only); (try k_fold))
  k_with "call ref" => (k_here; k_dflt (refine' Tel.useR (by k_asm) (by k_asm) (by k_asm) (by k_asm) (by k_asm) (by first | exact rfl | assumption) (by (refine' And.intro (by k_mem) (by first | assumption | (refine' All2.mono ?_ (by assumption); (exact fun _ _ h9kw => h9kw.mono (fun p9 hp9kw => by simp only [List.mem_append, List.mem_cons, hp9kw, true_or, or_true])))))) (tel_steps (by assumption) (by assumption) (by assumption) (by assumption) (by assumption)) (by ktr_room) (by ktr_units) ?_); intro r9kw tl9kw h9kw tk9kw F9kw N9kw hl9kw ho9kw; (try simp only [List.cons_append, List.nil_append, List.append_assoc] at N9kw ho9kw); (try simp only [List.forall_mem_cons, List.forall_mem_append, List.cons_append, List.nil_append, List.not_mem_nil, false_implies, implies_true, and_true] at hl9kw); (repeat' (obtain ⟨_, hl9kw⟩ := hl9kw)); obtain ⟨D9kw, out9kw, e9kw, os9kw, er9kw, hm9kw, hd9kw, hp9kw, hw9kw⟩ := ho9kw; subst er9kw; (try dsimp only); (try k_fold))
  k_with "call ref" => (k_here; k_dflt (refine' Tel.useR (by k_asm) (by k_asm) (by k_asm) (by k_asm) (by k_asm) (by first | exact rfl | assumption) (by (refine' And.intro (by k_mem) (by assumption))) (tel_spans (by (rw [List.Perm.length_eq (by assumption)]; exact Nat.lt_of_le_of_lt stepsOf_len (by assumption)))) (by ktr_room) (by ktr_units) ?_); intro r9kw tl9kw h9kw tk9kw F9kw N9kw hl9kw ho9kw; (try simp only [List.cons_append, List.nil_append, List.append_assoc] at N9kw ho9kw); (try simp only [List.forall_mem_cons, List.forall_mem_append, List.cons_append, List.nil_append, List.not_mem_nil, false_implies, implies_true, and_true] at hl9kw); (repeat' (obtain ⟨_, hl9kw⟩ := hl9kw)); obtain ⟨D9kw, out9kw, e9kw, er9kw, hm9kw, hd9kw⟩ := ho9kw; subst er9kw; (try dsimp only); (try k_fold))
  intro prog w p loose mean mg mb dp un gd cn cs a ccd cl outer A₀ base h₀ L m news s Q E B F X N T hk hP hd hu hret
  obtain ⟨hl, hvs⟩ := hP
  (refine wpAny_call ?_; k_dflt ktr_enter)
  k_steps
  (refine' hret _ _ _ _ ?fr1 ?nw1 ?ord1 ?out1; (case fr1 => k_asm); (case nw1 => k_asm); (case ord1 => ((try dsimp only); (try simp only [List.forall_mem_cons, List.forall_mem_append, List.cons_append, List.nil_append, List.not_mem_nil, false_implies, implies_true, and_true, forall_and, imp_and]); (repeat' (apply And.intro)); all_goals (first | assumption | (refine ltN ?_; omega) | exact (fun _ _ => List.forall_mem_nil _)))); (case out1 => (exact ⟨_, _, _, _, rfl, by assumption, by assumption, by assumption, by assumption⟩)))
end
section
noncomputable def insideL (nz : Bool) (w : Int) : Bool := if nz then decide (w ≠ 0) else decide (w.fmod 2 = 1)
noncomputable def lsStep (nz : Bool) (w col : Int) (f : List (Int × Int)) : List (Int × Int) :=
  if insideL nz w = true then (match f.getLast? with
    | some (a, b) => if b = col then f.dropLast ++ [(a, col + 1)] else f ++ [(col, col + 1)]
    | none => f ++ [(col, col + 1)]) else f
/-- the first k columns from lo on -/
noncomputable def lsRun (nz : Bool) (g : Int → Int) (lo : Int) : Nat → List (Int × Int)
  | 0 => []
  | k + 1 => lsStep nz (g (lo + k)) (lo + k) (lsRun nz g lo k)
theorem lsStep_len {nz : Bool} {w col : Int} {f : List (Int × Int)} : (lsStep nz w col f).length ≤ f.length + 1 := by
  unfold lsStep
  split
  · split
    · split
      · rw [List.length_append, List.length_dropLast]; simp
      · simp
    · simp
  · omega
theorem lsRun_len {nz : Bool} {g : Int → Int} {lo : Int} : ∀ k, (lsRun nz g lo k).length ≤ k
  | 0 => Nat.le_refl _
  | k + 1 => Nat.le_trans lsStep_len (Nat.succ_le_succ (lsRun_len k))
theorem lsStep_out {nz : Bool} {w col : Int} {f : List (Int × Int)} (h : insideL nz w = false) : lsStep nz w col f = f := by
  unfold lsStep; rw [h]; rfl
theorem lsStep_nil {nz : Bool} {w col : Int} (h : insideL nz w = true) : lsStep nz w col [] = [(col, col + 1)] := by
  unfold lsStep; rw [if_pos h]; rfl
theorem lsStep_new {nz : Bool} {w col a b : Int} {f : List (Int × Int)} (h : insideL nz w = true) (hb : ¬ b = col) : lsStep nz w col (f ++ [(a, b)]) = f ++ [(a, b)] ++ [(col, col + 1)] := by
  unfold lsStep; rw [if_pos h]; simp [hb]
theorem lsStep_more {nz : Bool} {w col a b : Int} {f : List (Int × Int)} (h : insideL nz w = true) (hb : b = col) : lsStep nz w col (f ++ [(a, b)]) = f ++ [(a, col + 1)] := by
  unfold lsStep; rw [if_pos h]; simp [hb]
theorem range_sizeZ {a b : Int} (h : a ≤ b) : Builtin.Range.rangeSize a b 1 = (((b - a).toNat : Nat) : Int) := by
  unfold Builtin.Range.rangeSize
  rw [if_pos (by decide), Int.ediv_one]
  split <;> omega
theorem range_smallZ {a b : Int} (h : a ≤ b) (ha : -1000 ≤ a) (hb : b ≤ 1000) : Builtin.Range.small a b 1 = true := by
  simp [Builtin.Range.small, range_sizeZ h, Builtin.Range.rangeFitsLong]
  omega
theorem tel_lawWindingW {l : Addr} {vs : List Value} {nn : Nat} {prs : List Pr} {x y W : Int} {t0 u0 : Nat} (hok : ∀ p ∈ prs, PrOk p) (hx : -1000 ≤ x ∧ x ≤ 1000) (hy : -1000 ≤ y ∧ y ≤ 1000) (hW : lwSum x y prs = W) :
    Tel 233 16 128 [.ref l, .int x t0, .int y u0] (fun news => (l, listOf vs.toArray nn) ∈ news ∧ DatAll news vs (prs.map prD)) (fun news r => ∃ k, r = .int W k) := by
  subst hW
  exact tel_lawWinding hok hx hy
section
variable {prog : Program} {w : World} {A : Around} {E : Value → Shared → Prop} {s : Shared} {h₀ : Heap} {L : Addr} {m : Str → Option Value} {news news' n1 : List (Addr × Obj)}
open Classical in
theorem ne_nil_led {l e : Addr} {vs : List Value} {ds : List (Int × Int)} {n k : Nat} {r : Bool} {Q : Value → Shared → Prop} (N : News h₀ L s.heap news) (hl : (l, listOf vs.toArray n) ∈ news) (he : (e, listOf (List.toArray []) k) ∈ news) (hD : DatAll n1 vs (ds.map spD)) (hs : ∀ p ∈ n1, p ∈ news)
    (hr : (!ds.isEmpty) = r) (hu : A.units + 64 < cLine) (h : Q (.bool r) s) : wpAny (model prog w) A (compareOp .NotEq (.ref l) (.ref e)) Q E s := by
  refine kqd_ne N hl rfl rfl hD hs he rfl rfl (DatAll.nil (news := news)) (fun _ h => h) (fun d hd => ?_) (fun _ h => nomatch h) hu ?_
  · obtain ⟨c, _, rfl⟩ := List.mem_map.mp hd; rfl
  · have e9 : (!decide (ds.map spD = [])) = r := by
      rw [← hr]
      cases ds with
      | nil => simp
      | cons c ds => simp
    rw [e9]; exact h
theorem setL_last {v vT : Value} : ∀ cs : List Value, ki_setL (cs ++ [vT]) cs.length v = some (cs ++ [v])
  | [] => rfl
  | c :: cs => by
    show (match ki_setL (cs ++ [vT]) cs.length v with | some q => some (c :: q) | none => none) = _
    rw [setL_last cs]; rfl
theorem seqI_last {n : Nat} (h : 0 < n) : seqIndex? (-1) n = some (n - 1) := by unfold seqIndex?; simp; omega
noncomputable def setLast (vs : List Value) (v : Value) : List Value := vs.dropLast ++ [v]
theorem setlast_led {D : Addr} {vs : List Value} {v : Value} {n : Nat} {t : Tok} {Q : Unit → Shared → Prop} (F : Fr h₀ L s.heap m) (N : News h₀ L s.heap news) (hne : vs ≠ []) (U : Upd D (listOf vs.toArray n) (listOf (setLast vs v).toArray n) news news')
    (h : ∀ h', Fr h₀ L h' m → News h₀ L h' news' → Q () { s with heap := h' }) : wpAny (model prog w) A (setItem (.ref D) (.int (-1) t) v) Q E s := by
  obtain ⟨cs, vT, rfl⟩ : ∃ cs vT, vs = cs ++ [vT] := ⟨_, _, (List.dropLast_concat_getLast hne).symm⟩
  have e : setLast (cs ++ [vT]) v = cs ++ [v] := by unfold setLast; simp
  rw [e] at U
  exact ki_setNeg F N (by decide) (by decide) (seqI_last (by simp)) (by simpa using setL_last (v := v) (vT := vT) cs) U h
theorem item_last {value slice : PySem.Expr} {l : Addr} {vs : List Value} {nn : Nat} {u : Tok} {v : Value} {Q : Value → Shared → Prop} (N : News h₀ L s.heap news) (hl : (l, listOf vs.toArray nn) ∈ news) (hx : vs.getLast? = some v) (h : Q v s)
    (hs : subscripted slice false (.ref l) (.int (-1) u) = operate [.ref l, .int (-1) u] (getItem (.ref l) (.int (-1) u))) :
    wpAny (model prog w) A (subscriptTail value slice (.ref l) (.int (-1) u)) Q E s := by
  have hne : vs ≠ [] := by rintro rfl; simp at hx
  rw [List.getLast?_eq_getElem?] at hx
  exact kde_neg (News.isList N hl) (by decide) (by decide) (seqI_last (List.length_pos_iff.mpr hne)) hx h hs
end
set_option maxHeartbeats 4000000 in
theorem tel_lawSpans {l : Addr} {vs : List Value} {nn : Nat} {prs : List Pr} {row fine grain : Int} {nz : Bool} {t0 u0 t1 t2 : Nat} (hok : ∀ p ∈ prs, PrOk p) (hy : -100 ≤ row * Int.fdiv grain fine + Int.fdiv (Int.fdiv grain fine) 2 ∧ row * Int.fdiv grain fine + Int.fdiv (Int.fdiv grain fine) 2 ≤ 100)
    (hr : -1000 ≤ row ∧ row ≤ 1000) (hf : 1 ≤ fine ∧ fine ≤ 3 ∧ 1 ≤ grain ∧ grain ≤ 12) (hs : Int.fdiv grain fine = 2 ∨ Int.fdiv grain fine = 4 ∨ Int.fdiv grain fine = 6) :
    Tel 240 32 256 [.ref l, .int row t0, ruleV nz u0, .int fine t1, .int grain t2] (fun news => (l, listOf vs.toArray nn) ∈ news ∧ DatAll news vs (prs.map prD))
      (fun news r => ∃ (D : Addr) (out : List Value) (e : Nat), r = .ref D ∧ (D, listOf (List.toArray out) e) ∈ news ∧
        DatAll news out ((lsRun nz (fun col => lwSum (col * Int.fdiv grain fine + Int.fdiv (Int.fdiv grain fine) 2) (row * Int.fdiv grain fine + Int.fdiv (Int.fdiv grain fine) 2) prs) (Int.fdiv (-6) (Int.fdiv grain fine) - 1) ((Int.fdiv 20 (Int.fdiv grain fine) + 2 - (Int.fdiv (-6) (Int.fdiv grain fine) - 1)).toNat)).map spD)) := by
  k_with_none
  k_with "call builtin:len" => (k_here; (with_reducible show wpAny _ _ (call (Value.builtin "len") [Value.ref _]) _ _ _); k_dflt (refine' len_led (by k_asm) (by k_mem) (by ((try simp only [List.length_append, List.length_cons, List.length_nil]); omega)) ?_; k_whole))
  k_with "subscriptTail" => (k_here; (with_reducible show wpAny _ _ (subscriptTail _ _ (Value.ref _) (Value.int _ _)) _ _ _); k_dflt (refine' item_led (by k_asm) (by k_mem) (by omega) (by omega) (by with_reducible assumption) ?_ (by with_unfolding_all rfl); k_whole))
  k_with "compareOp NotEq ref ref" => (k_here; k_dflt (refine' ne_nil_led (by k_asm) (by k_mem) (by k_mem) (by assumption) (by exact (fun p9 hp9 => by simp only [List.mem_append, List.mem_cons, hp9, true_or, or_true])) (by assumption) (by k_units) ?_; k_whole))
  k_with "subscriptTail Subscript Name UnaryOp Constant ref int" => (k_here; (first | (with_reducible show wpAny _ _ (subscriptTail _ _ (Value.ref _) (Value.int 0 _)) _ _ _) | (with_reducible show wpAny _ _ (subscriptTail _ _ (Value.ref _) (Value.int 1 _)) _ _ _)); k_dflt (refine' item_ledT (by k_asm) (by k_mem) (by decide) (by decide) (by exact rfl) ?_ (by with_unfolding_all rfl); k_whole))
  k_with "subscriptTail Subscript" => (k_here; (first | (with_reducible show wpAny _ _ (subscriptTail _ _ (Value.ref _) (Value.int 0 _)) _ _ _) | (with_reducible show wpAny _ _ (subscriptTail _ _ (Value.ref _) (Value.int 1 _)) _ _ _)); k_dflt (refine' item_ledT (by k_asm) (by k_mem) (by decide) (by decide) (by exact rfl) ?_ (by with_unfolding_all rfl); k_whole))
  k_with "subscriptTail Name Constant ref int" => (k_here; (first | (with_reducible show wpAny _ _ (subscriptTail _ _ (Value.ref _) (Value.int 0 _)) _ _ _) | (with_reducible show wpAny _ _ (subscriptTail _ _ (Value.ref _) (Value.int 1 _)) _ _ _)); k_dflt (refine' item_ledT (by k_asm) (by k_mem) (by decide) (by decide) (by exact rfl) ?_ (by with_unfolding_all rfl); k_whole))
  k_with "subscriptTail Name UnaryOp ref int" => (k_here; (with_reducible show wpAny _ _ (subscriptTail _ _ (Value.ref _) (Value.int (-1) _)) _ _ _); k_dflt (refine' item_last (by k_asm) (by k_mem) (by with_reducible assumption) ?_ (by with_unfolding_all rfl); k_whole))
  k_with "setItem ref int ref" => (k_here; k_dflt (refine' setlast_led (by k_asm) (by k_asm) (by assumption) (by k_upd) ?_; k_whole); intro h'kw F'kw N'kw; (try k_sweep))
  k_with "call ref" => (k_here; k_dflt (refine' Tel.useR (by k_asm) (by k_asm) (by k_asm) (by k_asm) (by k_asm) (by first | exact rfl | assumption) (by (refine' And.intro (by k_mem) (by (refine' DatAll.mono ?_ (by assumption); (exact (fun p9 hp9 => by simp only [List.mem_append, List.mem_cons, hp9, true_or, or_true])))))) (tel_lawWindingW (by assumption) (by omega) (by omega) (by assumption)) (by ktr_room) (by ktr_units) ?_); intro r9kw tl9kw h9kw tk9kw F9kw N9kw hl9kw ho9kw; (try simp only [List.cons_append, List.nil_append, List.append_assoc] at N9kw ho9kw); (try simp only [List.forall_mem_cons, List.forall_mem_append, List.cons_append, List.nil_append, List.not_mem_nil, false_implies, implies_true, and_true] at hl9kw); (repeat' (obtain ⟨_, hl9kw⟩ := hl9kw)); obtain ⟨k9kw, e9kw⟩ := ho9kw; subst e9kw; (try dsimp only); (try k_fold))
  k_with "exec For Name Call cons nil" => (k_here; k_dflt (refine' For_at ?_ (by intro _; with_unfolding_all rfl)))
  k_with "pyIter ref" => (k_here; (refine stopHere ?_))
  k_with "exec If" => (k_here; (have mk9 : StopIf := by with_reducible assumption); clear mk9; refine stopHere ?_)
  intro prog w p loose mean mg mb dp un gd cn cs a ccd cl outer A₀ base h₀ L m news s Q E B F X N T hk hP hd hu hret
  obtain ⟨hl, hvs⟩ := hP
  have hst : 0 < Int.fdiv grain fine ∧ Int.fdiv grain fine ≤ 6 := by rcases hs with h | h | h <;> omega
  have hlo : -4 ≤ Int.fdiv (-6) (Int.fdiv grain fine) - 1 ∧ Int.fdiv (-6) (Int.fdiv grain fine) - 1 ≤ 0 := by rcases hs with h | h | h <;> rw [h] <;> decide
  have hhi : 5 ≤ Int.fdiv 20 (Int.fdiv grain fine) + 2 ∧ Int.fdiv 20 (Int.fdiv grain fine) + 2 ≤ 12 := by rcases hs with h | h | h <;> rw [h] <;> decide
  have hhf : 0 ≤ Int.fdiv (Int.fdiv grain fine) 2 ∧ Int.fdiv (Int.fdiv grain fine) 2 ≤ 3 := by rcases hs with h | h | h <;> rw [h] <;> decide
  (refine wpAny_call ?_; k_dflt ktr_enter)
  k_steps
  (have h'kw := trivial; have F'kw := trivial; have N'kw := trivial; have r9kw := trivial; have tl9kw := trivial; have h9kw := trivial; have tk9kw := trivial; have F9kw := trivial; have N9kw := trivial; have hl9kw := trivial; have ho9kw := trivial; have k9kw := trivial; have e9kw := trivial; rename_i lF hh0 ll1 DT hh1 lDF lDn hA hB hC FA NA hD tkD tD uD vD hrD FD ND hkD; clear h'kw F'kw N'kw r9kw tl9kw h9kw tk9kw F9kw N9kw hl9kw ho9kw k9kw e9kw)
  obtain ⟨g, hg⟩ : ∃ g : Int → Int, g = fun col => lwSum (col * Int.fdiv grain fine + Int.fdiv (Int.fdiv grain fine) 2) (row * Int.fdiv grain fine + Int.fdiv (Int.fdiv grain fine) 2) prs := ⟨_, rfl⟩
  rw [← hg] at hret
  refine StopAt.go ?_
  refine iter_range (n := (Int.fdiv 20 (Int.fdiv grain fine) + 2 - (Int.fdiv (-6) (Int.fdiv grain fine) - 1)).toNat) (σ := List Value × Nat × List (Int × Int)) (fun c => [(lF, listOf c.1.toArray c.2.1)]) news (fun _ => []) ["column", "winding"] [lF]
    (fun i S c => DatAll S c.1 (c.2.2.map spD) ∧ c.2.2 = lsRun nz g (Int.fdiv (-6) (Int.fdiv grain fine) - 1) i) ([], 0, []) rfl hrD (range_smallZ (by omega) (by omega) (by omega)) (range_sizeZ (by omega)) FD ND ?sub (fun _ => rfl) (fun p hp a ha => by
      rw [List.mem_singleton.mp ha]; exact Nat.ne_of_lt (ll1 p hp)) (fun _ hp => nomatch hp) ⟨.nil, rfl⟩ (by passes_own) ?turn ?done
  (case sub => intro p hp; simp only [List.mem_cons, List.mem_append, List.not_mem_nil, or_false] at hp ⊢; grind)
  (case done =>
    intro c tl u h tk hP hord F' N'
    obtain ⟨cv, cnn, f⟩ := c
    obtain ⟨hD, hf9⟩ := hP
    dsimp only at hD hf9 F' N' hord
    simp only [List.cons_append, List.nil_append] at N'
    simp only [List.forall_mem_cons, List.forall_mem_append, List.cons_append, List.nil_append] at hord
    obtain ⟨ho1, ho2⟩ := hord
    k_steps
    (refine' hret (_) ((lF, listOf cv.toArray cnn) :: tl) _ _ ?fr1 (nwX ?nw1 ?sub1) ?ord1 ?out1; (case fr1 => k_asm); (case nw1 => k_asm); (case sub1 => ((try dsimp only); (repeat' (first | (refine List.forall_mem_append.mpr ⟨?_, ?_⟩) | (refine List.forall_mem_cons.mpr ⟨?_, ?_⟩) | exact List.forall_mem_nil _ | exact (fun p9 hp9 => by simp only [List.mem_append, List.mem_cons, hp9, true_or, or_true]) | k_mem)))); (case ord1 => ((try dsimp only); (try simp only [List.forall_mem_cons, List.forall_mem_append, List.cons_append, List.nil_append, List.not_mem_nil, false_implies, implies_true, and_true, forall_and, imp_and]); (repeat' (apply And.intro)); all_goals (first | assumption | (refine ltN ?_; omega) | exact (fun _ _ => List.forall_mem_nil _)))); (case out1 => (exact ⟨lF, cv, cnn, rfl, List.mem_append_right _ (.head _), by rw [← hf9]; exact DatAll.mono (fun p hp => by simp only [List.mem_append, List.mem_cons] at hp ⊢; grind) hD⟩))))
  intro i c S u h tk own t hi hP hcst hoff F' N' QL hQL
  obtain ⟨cv, cnn, f⟩ := c
  obtain ⟨hD, hf9⟩ := hP
  dsimp only at hD hf9 F' N'
  have hoffS : ∀ p ∈ S, p.1 ≠ lF := fun p hp => hoff p (List.mem_append_left _ hp) lF (.head _)
  have hoffO : ∀ p ∈ own, p.1 ≠ lF := fun p hp => hoff p (List.mem_append_right _ hp) lF (.head _)
  clear hoff
  have hcl : cv.length ≤ 20 := by
    rw [DatAll.length hD, List.length_map, hf9]
    exact Nat.le_trans (lsRun_len _) (by omega)
  simp only [List.cons_append, List.nil_append] at N'
  have hvs' := DatAll.mono hcst hvs
  replace hl := hcst _ hl
  have hcol : -4 ≤ Int.fdiv (-6) (Int.fdiv grain fine) - 1 + (i : Int) ∧ Int.fdiv (-6) (Int.fdiv grain fine) - 1 + (i : Int) ≤ 12 := by omega
  have hcs : -24 ≤ (Int.fdiv (-6) (Int.fdiv grain fine) - 1 + (i : Int)) * Int.fdiv grain fine ∧ (Int.fdiv (-6) (Int.fdiv grain fine) - 1 + (i : Int)) * Int.fdiv grain fine ≤ 72 := by
    rcases hs with h | h | h <;> rw [h] at hcol ⊢ <;> omega
  have hgi : g (Int.fdiv (-6) (Int.fdiv grain fine) - 1 + (i : Int)) = lwSum ((Int.fdiv (-6) (Int.fdiv grain fine) - 1 + (i : Int)) * Int.fdiv grain fine + Int.fdiv (Int.fdiv grain fine) 2) (row * Int.fdiv grain fine + Int.fdiv (Int.fdiv grain fine) 2) prs := by rw [hg]
  obtain ⟨W, hW⟩ : ∃ W, lwSum ((Int.fdiv (-6) (Int.fdiv grain fine) - 1 + (i : Int)) * Int.fdiv grain fine + Int.fdiv (Int.fdiv grain fine) 2) (row * Int.fdiv grain fine + Int.fdiv (Int.fdiv grain fine) 2) prs = W := ⟨_, rfl⟩
  rw [hW] at hgi
  have hstep : lsRun nz g (Int.fdiv (-6) (Int.fdiv grain fine) - 1) (i + 1) = lsStep nz W (Int.fdiv (-6) (Int.fdiv grain fine) - 1 + (i : Int)) f := by
    rw [hf9, ← hgi]; rfl
  have stop9 : StopIf := trivial
  k_steps
  clear stop9
  refine StopAt.go ?_
  by_cases hin : insideL nz W = true
  · have hin1 : nz = true → (W != 0) = true := by intro e; subst e; simpa [insideL] using hin
    have hin2 : nz = false → (W.fmod 2 == 1) = true := by intro e; subst e; simpa [insideL] using hin
    rcases List.eq_nil_or_concat f with hfe | ⟨f0, ⟨fa, fb⟩, hfe⟩
    · rw [hfe, lsStep_nil hin] at hstep
      subst hfe
      have hce : cv = [] := by
        have := DatAll.length hD
        simpa using this
      subst hce
      have hr9 : (!([] : List (Int × Int)).isEmpty) = false := rfl
      cases nz
      all_goals
        first | (have hin3 := hin1 rfl; clear hin1 hin2) | (have hin3 := hin2 rfl; clear hin1 hin2)
        k_steps
        (have h'kw := trivial; have F'kw := trivial; have N'kw := trivial; have r9kw := trivial; have tl9kw := trivial; have h9kw := trivial; have tk9kw := trivial; have F9kw := trivial; have N9kw := trivial; have hl9kw := trivial; have ho9kw := trivial; have k9kw := trivial; have e9kw := trivial; rename_i D1 hX9 lt1 lt2 lt3 lt4 lt5 hY9 FZ NZ; clear h'kw F'kw N'kw r9kw tl9kw h9kw tk9kw F9kw N9kw hl9kw ho9kw k9kw e9kw)
        (try simp only [List.push_toArray, List.nil_append] at NZ)
        (refine' hQL _ _ (lpost_next ([.ref D1], cnn + 1, [((Int.fdiv (-6) (Int.fdiv grain fine) - 1 + (i : Int)), (Int.fdiv (-6) (Int.fdiv grain fine) - 1 + (i : Int)) + 1)]) ([(D1, _)]) ?fr2 ?nw2 ?sub2 ?own2 ?ord2 ?ps2 ?rest2 ?P2); (case fr2 => k_asm); (case nw2 => k_asm); (case sub2 => ((try dsimp only); (repeat' (first | (refine List.forall_mem_append.mpr ⟨?_, ?_⟩) | (refine List.forall_mem_cons.mpr ⟨?_, ?_⟩) | exact List.forall_mem_nil _ | exact (fun p9 hp9 => by simp only [List.mem_append, List.mem_cons, hp9, true_or, or_true]) | k_mem)))); (case own2 => ((try dsimp only); (repeat' (first | (refine List.forall_mem_append.mpr ⟨?_, ?_⟩) | (refine List.forall_mem_cons.mpr ⟨?_, ?_⟩) | exact List.forall_mem_nil _ | exact (fun p9 hp9 => by simp only [List.mem_append, List.mem_cons, hp9, true_or, or_true]) | k_mem)))); (case ord2 => ((try dsimp only); (try simp only [List.forall_mem_cons, List.forall_mem_append, List.cons_append, List.nil_append, List.not_mem_nil, false_implies, implies_true, and_true, forall_and, imp_and]); (repeat' (apply And.intro)); all_goals (first | assumption | (refine ltN ?_; omega) | exact (fun _ _ => List.forall_mem_nil _)))); (case ps2 => ((try dsimp only); (repeat' (first | exact List.forall_mem_nil _ | (refine List.forall_mem_cons.mpr ⟨?_, ?_⟩) | rfl | (with_unfolding_all rfl))))); (case rest2 => (intro z9 h8 h9; (try simp only [List.forall_mem_cons, List.not_mem_nil, false_implies, implies_true, and_true, ne_eq] at h8); simp only [List.contains_cons, List.contains_nil, Bool.or_false, Bool.or_eq_false_iff, beq_eq_false_iff_ne, ne_eq] at h9; simp [frm, kstB, h8, h9])); (case P2 => (exact ⟨.one (.tuple (List.mem_append_right _ (.head _)) (.cons (.int _ _) (.cons (.int _ _) .nil))), hstep.symm⟩)))
    · have hfe' : f = f0 ++ [(fa, fb)] := by rw [hfe]; simp
      rw [hfe'] at hstep hD
      obtain ⟨aT, nT, ka, kb, hcv, hDc, hTm⟩ : ∃ (aT : Addr) (nT ka kb : Nat), cv.getLast? = some (.ref aT) ∧ DatAll S cv.dropLast (f0.map spD) ∧ (aT, tupOf [.int fa ka, .int fb kb] nT) ∈ S := by
        have hlen9 : cv.length = f0.length + 1 := by rw [DatAll.length hD]; simp
        obtain ⟨v9, hv9, hI9⟩ := dat_at (i := f0.length) (c := (fa, fb)) hD (by simp)
        obtain ⟨aT, nT, ka, kb, rfl, hm9⟩ := sp_inv hI9
        refine ⟨aT, nT, ka, kb, ?_, ?_, hm9⟩
        · rw [List.getLast?_eq_getElem?, hlen9]; exact hv9
        · have h9 := dat_take hD f0.length
          rw [List.take_left] at h9
          rw [List.dropLast_eq_take, hlen9]
          exact h9
      have hcne : cv ≠ [] := by rintro rfl; simp at hcv
      have hr9 : (!(f0 ++ [(fa, fb)]).isEmpty) = true := by simp
      by_cases hb9 : fb = (Int.fdiv (-6) (Int.fdiv grain fine) - 1 + (i : Int))
      · rw [lsStep_more hin hb9] at hstep
        have hb8 : (fb == (Int.fdiv (-6) (Int.fdiv grain fine) - 1 + (i : Int))) = true := by simp [hb9]
        cases nz
        all_goals
          first | (have hin3 := hin1 rfl; clear hin1 hin2) | (have hin3 := hin2 rfl; clear hin1 hin2)
          k_steps
          (have h'kw := trivial; have F'kw := trivial; have N'kw := trivial; have r9kw := trivial; have tl9kw := trivial; have h9kw := trivial; have tk9kw := trivial; have F9kw := trivial; have N9kw := trivial; have hl9kw := trivial; have ho9kw := trivial; have k9kw := trivial; have e9kw := trivial; rename_i D1 hX9 lt1 lt2 lt3 lt4 lt5 hY9 FZ NZ; clear h'kw F'kw N'kw r9kw tl9kw h9kw tk9kw F9kw N9kw hl9kw ho9kw k9kw e9kw)
          (try simp only [List.push_toArray, List.nil_append] at NZ)
          (refine' hQL _ _ (lpost_next (setLast cv (.ref D1), cnn, f0 ++ [(fa, (Int.fdiv (-6) (Int.fdiv grain fine) - 1 + (i : Int)) + 1)]) ([(D1, _)]) ?fr3 ?nw3 ?sub3 ?own3 ?ord3 ?ps3 ?rest3 ?P3); (case fr3 => k_asm); (case nw3 => k_asm); (case sub3 => ((try dsimp only); (repeat' (first | (refine List.forall_mem_append.mpr ⟨?_, ?_⟩) | (refine List.forall_mem_cons.mpr ⟨?_, ?_⟩) | exact List.forall_mem_nil _ | exact (fun p9 hp9 => by simp only [List.mem_append, List.mem_cons, hp9, true_or, or_true]) | k_mem)))); (case own3 => ((try dsimp only); (repeat' (first | (refine List.forall_mem_append.mpr ⟨?_, ?_⟩) | (refine List.forall_mem_cons.mpr ⟨?_, ?_⟩) | exact List.forall_mem_nil _ | exact (fun p9 hp9 => by simp only [List.mem_append, List.mem_cons, hp9, true_or, or_true]) | k_mem)))); (case ord3 => ((try dsimp only); (try simp only [List.forall_mem_cons, List.forall_mem_append, List.cons_append, List.nil_append, List.not_mem_nil, false_implies, implies_true, and_true, forall_and, imp_and]); (repeat' (apply And.intro)); all_goals (first | assumption | (refine ltN ?_; omega) | exact (fun _ _ => List.forall_mem_nil _)))); (case ps3 => ((try dsimp only); (repeat' (first | exact List.forall_mem_nil _ | (refine List.forall_mem_cons.mpr ⟨?_, ?_⟩) | rfl | (with_unfolding_all rfl))))); (case rest3 => (intro z9 h8 h9; (try simp only [List.forall_mem_cons, List.not_mem_nil, false_implies, implies_true, and_true, ne_eq] at h8); simp only [List.contains_cons, List.contains_nil, Bool.or_false, Bool.or_eq_false_iff, beq_eq_false_iff_ne, ne_eq] at h9; simp [frm, kstB, h8, h9])); (case P3 => (exact ⟨by dsimp only; unfold setLast; rw [List.map_append]; exact DatAll.append (DatAll.mono (fun p hp => List.mem_append_left _ hp) hDc) (.one (.tuple (List.mem_append_right _ (.head _)) (.cons (.int _ _) (.cons (.int _ _) .nil)))), hstep.symm⟩)))
      · rw [lsStep_new hin hb9] at hstep
        have hb8 : (fb == (Int.fdiv (-6) (Int.fdiv grain fine) - 1 + (i : Int))) = false := by simp [hb9]
        cases nz
        all_goals
          first | (have hin3 := hin1 rfl; clear hin1 hin2) | (have hin3 := hin2 rfl; clear hin1 hin2)
          k_steps
          (have h'kw := trivial; have F'kw := trivial; have N'kw := trivial; have r9kw := trivial; have tl9kw := trivial; have h9kw := trivial; have tk9kw := trivial; have F9kw := trivial; have N9kw := trivial; have hl9kw := trivial; have ho9kw := trivial; have k9kw := trivial; have e9kw := trivial; rename_i D1 hX9 lt1 lt2 lt3 lt4 lt5 hY9 FZ NZ; clear h'kw F'kw N'kw r9kw tl9kw h9kw tk9kw F9kw N9kw hl9kw ho9kw k9kw e9kw)
          (try simp only [List.push_toArray, List.nil_append] at NZ)
          (refine' hQL _ _ (lpost_next (cv ++ [.ref D1], cnn + 1, f0 ++ [(fa, fb)] ++ [((Int.fdiv (-6) (Int.fdiv grain fine) - 1 + (i : Int)), (Int.fdiv (-6) (Int.fdiv grain fine) - 1 + (i : Int)) + 1)]) ([(D1, _)]) ?fr4 ?nw4 ?sub4 ?own4 ?ord4 ?ps4 ?rest4 ?P4); (case fr4 => k_asm); (case nw4 => k_asm); (case sub4 => ((try dsimp only); (repeat' (first | (refine List.forall_mem_append.mpr ⟨?_, ?_⟩) | (refine List.forall_mem_cons.mpr ⟨?_, ?_⟩) | exact List.forall_mem_nil _ | exact (fun p9 hp9 => by simp only [List.mem_append, List.mem_cons, hp9, true_or, or_true]) | k_mem)))); (case own4 => ((try dsimp only); (repeat' (first | (refine List.forall_mem_append.mpr ⟨?_, ?_⟩) | (refine List.forall_mem_cons.mpr ⟨?_, ?_⟩) | exact List.forall_mem_nil _ | exact (fun p9 hp9 => by simp only [List.mem_append, List.mem_cons, hp9, true_or, or_true]) | k_mem)))); (case ord4 => ((try dsimp only); (try simp only [List.forall_mem_cons, List.forall_mem_append, List.cons_append, List.nil_append, List.not_mem_nil, false_implies, implies_true, and_true, forall_and, imp_and]); (repeat' (apply And.intro)); all_goals (first | assumption | (refine ltN ?_; omega) | exact (fun _ _ => List.forall_mem_nil _)))); (case ps4 => ((try dsimp only); (repeat' (first | exact List.forall_mem_nil _ | (refine List.forall_mem_cons.mpr ⟨?_, ?_⟩) | rfl | (with_unfolding_all rfl))))); (case rest4 => (intro z9 h8 h9; (try simp only [List.forall_mem_cons, List.not_mem_nil, false_implies, implies_true, and_true, ne_eq] at h8); simp only [List.contains_cons, List.contains_nil, Bool.or_false, Bool.or_eq_false_iff, beq_eq_false_iff_ne, ne_eq] at h9; simp [frm, kstB, h8, h9])); (case P4 => (exact ⟨by dsimp only; rw [List.map_append]; exact DatAll.append (DatAll.mono (fun p hp => List.mem_append_left _ hp) hD) (.one (.tuple (List.mem_append_right _ (.head _)) (.cons (.int _ _) (.cons (.int _ _) .nil)))), hstep.symm⟩)))
  · rw [lsStep_out (Bool.eq_false_iff.mpr hin)] at hstep
    have hin1 : nz = true → (W != 0) = false := by intro e; subst e; simpa [insideL] using hin
    have hin2 : nz = false → (W.fmod 2 == 1) = false := by intro e; subst e; simpa [insideL] using hin
    cases nz
    all_goals
      first | (have hin3 := hin1 rfl; clear hin1 hin2) | (have hin3 := hin2 rfl; clear hin1 hin2)
      k_steps
      (refine' hQL _ _ (lpost_next (cv, cnn, f) ([]) ?fr5 ?nw5 ?sub5 ?own5 ?ord5 ?ps5 ?rest5 ?P5); (case fr5 => k_asm); (case nw5 => k_asm); (case sub5 => ((try dsimp only); (repeat' (first | (refine List.forall_mem_append.mpr ⟨?_, ?_⟩) | (refine List.forall_mem_cons.mpr ⟨?_, ?_⟩) | exact List.forall_mem_nil _ | exact (fun p9 hp9 => by simp only [List.mem_append, List.mem_cons, hp9, true_or, or_true]) | k_mem)))); (case own5 => ((try dsimp only); (repeat' (first | (refine List.forall_mem_append.mpr ⟨?_, ?_⟩) | (refine List.forall_mem_cons.mpr ⟨?_, ?_⟩) | exact List.forall_mem_nil _ | exact (fun p9 hp9 => by simp only [List.mem_append, List.mem_cons, hp9, true_or, or_true]) | k_mem)))); (case ord5 => ((try dsimp only); (try simp only [List.forall_mem_cons, List.forall_mem_append, List.cons_append, List.nil_append, List.not_mem_nil, false_implies, implies_true, and_true, forall_and, imp_and]); (repeat' (apply And.intro)); all_goals (first | assumption | (refine ltN ?_; omega) | exact (fun _ _ => List.forall_mem_nil _)))); (case ps5 => ((try dsimp only); (repeat' (first | exact List.forall_mem_nil _ | (refine List.forall_mem_cons.mpr ⟨?_, ?_⟩) | rfl | (with_unfolding_all rfl))))); (case rest5 => (intro z9 h8 h9; (try simp only [List.forall_mem_cons, List.not_mem_nil, false_implies, implies_true, and_true, ne_eq] at h8); simp only [List.contains_cons, List.contains_nil, Bool.or_false, Bool.or_eq_false_iff, beq_eq_false_iff_ne, ne_eq] at h9; simp [frm, kstB, h8, h9])); (case P5 => (exact ⟨by rw [List.append_nil]; exact hD, hstep.symm⟩)))
end
section
noncomputable abbrev srcO (a m : Int) (ta tm n : Nat) : Obj := listOf #[.int a ta, .int m tm] n
noncomputable def SrcOk (o : Obj) : Prop := ∃ a m ta tm n, o = srcO a m ta tm n ∧ 0 ≤ a ∧ 0 ≤ m ∧ m < 2147483647
theorem fmod_b (x : Int) {m : Int} (h : 0 < m) : 0 ≤ x.fmod m ∧ x.fmod m < m := ⟨Int.fmod_nonneg_of_pos x h, Int.fmod_lt_of_pos x h⟩
set_option maxHeartbeats 4000000 in
theorem tel_take {b : Addr} {a m0 top : Int} {ta tm n t : Nat} (ha : 0 ≤ a) (hm : 0 ≤ m0 ∧ m0 < 2147483647) (ht : 1 ≤ top ∧ top ≤ 100) :
    TelM 209 8 64 [.ref b, .int top t] b (srcO a m0 ta tm n) (fun _ => True) (fun o' _ r => SrcOk o' ∧ ∃ d k, r = .int d k ∧ 0 ≤ d ∧ d < top) := by
  k_with_none
  k_with "call builtin:len" => (k_here; (with_reducible show wpAny _ _ (call (Value.builtin "len") [Value.ref _]) _ _ _); k_dflt (refine' len_led (by k_asm) (by k_mem) (by ((try simp only [List.length_append, List.length_cons, List.length_nil]); omega)) ?_; k_whole))
  k_with "subscriptTail" => (k_here; (with_reducible show wpAny _ _ (subscriptTail _ _ (Value.ref _) (Value.int _ _)) _ _ _); k_dflt (refine' item_led (by k_asm) (by k_mem) (by omega) (by omega) (by with_reducible assumption) ?_ (by with_unfolding_all rfl); k_whole))
  k_with "binaryOp Mult int int" => (k_here; k_dflt (refine' PyProof.Rows.mul_int ?_ (by assumption)))
  intro prog w p loose mean mg mb dp un gd cn cs a ccd cl outer A₀ base h₀ L m news s Q E B F X N hnb T hk hP hd hu hret
  have hb1 := fmod_b (m0 * 39373 + 7) (m := 2147483647) (by decide)
  have hb2 : IntMulOk ((m0 * 39373 + 7).fmod 2147483647) ((m0 * 39373 + 7).fmod 2147483647) := .of_left (intBits_le_64 (by omega) (by omega))
  (refine wpAny_call ?_; k_dflt ktr_enter)
  k_steps
  · refine hret _ _ [] _ _ (by k_asm) (by rw [List.append_nil]; k_asm) (fun _ h => nomatch h) (fun _ _ _ h => nomatch h) ⟨⟨_, _, _, _, _, rfl, ?_, hm.1, hm.2⟩, _, _, rfl, fmod_b _ (by omega)⟩
    exact Int.fdiv_nonneg ha (by omega)
  · refine hret _ _ [] _ _ (by k_asm) (by rw [List.append_nil]; k_asm) (fun _ h => nomatch h) (fun _ _ _ h => nomatch h) ⟨⟨_, _, _, _, _, rfl, ha, hb1.1, hb1.2⟩, _, _, rfl, fmod_b _ (by omega)⟩
/-- the same, for whatever stands in the source -/
theorem tel_takeS {b : Addr} {o : Obj} {top : Int} {t : Nat} (ho : SrcOk o) (ht : 1 ≤ top ∧ top ≤ 100) :
    TelM 209 8 64 [.ref b, .int top t] b o (fun _ => True) (fun o' _ r => SrcOk o' ∧ ∃ d k, r = .int d k ∧ 0 ≤ d ∧ d < top) := by
  obtain ⟨a, m, ta, tm, n, rfl, ha, hm⟩ := ho
  exact tel_take ha hm ht
end
section
/-- a contract of a def that changes one object: what it asks may speak of the rest of the ledger, what it tells too -/
theorem TelM.useV {f : Addr} {dd uu : Nat} {vs : List Value} {b : Addr} {o : Obj} {Pre : List (Addr × Obj) → Prop} {Out : Obj → List (Addr × Obj) → Value → Prop} (C : TelM f dd uu vs b o Pre Out)
    {prog : Program} {w : World} {p : Program} {loose : List Str} {mean : ExcName → Option Value} {mg mb : Str → Option Value} {dp un : Nat} {gd : Option (List Code)} {cn : Str} {cs : Scope} {a : Addr} {ccd : Value} {cl : List (Str × Addr)} {outer : List Env} {A₀ : Around} {base h₀ : Heap} {L : Addr} {m : Str → Option Value} {all : List (Addr × Obj)} {g : Obj → List (Addr × Obj)} {s : Shared}
    {Q E : Value → Shared → Prop} (B : Below A₀ base outer h₀) (F : Fr h₀ L s.heap m) (X : (hK w.params).In h₀) (N : News h₀ L s.heap all) (T : Top p loose mean mg mb h₀) (hk : cs.kind = .function)
    (hd : dp + dd < recursionLimit) (hu : un + uu < cLine) (U : UpdF b o all g) (R : ∀ nw, (∀ p ∈ all, p.1 ≠ b → p ∈ nw) → Pre nw)
    (ret : ∀ r o' tl h' tk', Fr h₀ L h' m → News h₀ L h' (g o' ++ tl) → (∀ q ∈ all, ∀ p ∈ tl, q.1 < p.1) → (∃ nw, (∀ p ∈ nw, p ∈ g o' ++ tl) ∧ Out o' nw r) → Q r { s with heap := h', toks := tk' }) :
    wpAny (model prog w) (ktrTop dp un gd cn cs L a ccd cl outer) (call (.ref f) vs) Q E s := by
  obtain ⟨pre, post, rfl, hg, h1, h2⟩ := U.split
  refine C _ _ _ _ _ _ _ _ _ _ _ _ _ _ _ _ _ _ _ _ _ (pre ++ post) _ _ _ B F X (fun p hp => N p ?_) (fun p hp => ?_) T hk (R _ fun p hp hne => ?_) hd hu fun r o' tl h' tk' F' N' l1 l2 hO => ret r o' tl h' tk' F' (fun p hp => N' p ?_) (fun q hq p hp => ?_) ⟨_, fun p hp => ?_, hO⟩
  · simp only [List.mem_cons, List.mem_append] at hp ⊢; grind
  · rcases List.mem_append.mp hp with hp | hp
    · exact h1 p hp
    · exact h2 p hp
  · simp only [List.mem_cons, List.mem_append] at hp ⊢; grind
  · rw [hg] at hp; simp only [List.mem_cons, List.mem_append] at hp ⊢; grind
  · rcases List.mem_append.mp hq with hq | hq
    · exact l2 q (List.mem_append_left _ hq) p hp
    · rcases List.mem_cons.mp hq with rfl | hq
      · exact l1 p hp
      · exact l2 q (List.mem_append_right _ hq) p hp
  · rw [hg]; simp only [List.mem_cons, List.mem_append] at hp ⊢; grind
set_option maxHeartbeats 4000000 in
theorem tel_one {b l : Addr} {o : Obj} {vs : List Value} {nn : Nat} (ho : SrcOk o) (hn : 1 ≤ vs.length ∧ vs.length ≤ 100) :
    TelM 216 16 128 [.ref b, .ref l] b o (fun news => (l, listOf vs.toArray nn) ∈ news) (fun o' _ r => SrcOk o' ∧ ∃ i : Nat, vs[i]? = some r) := by
  k_with_none
  k_with "call builtin:len" => (k_here; (with_reducible show wpAny _ _ (call (Value.builtin "len") [Value.ref _]) _ _ _); k_dflt (refine' len_led (by k_asm) (by k_mem) (by ((try simp only [List.length_append, List.length_cons, List.length_nil]); omega)) ?_; k_whole))
  k_with "subscriptTail" => (k_here; (with_reducible show wpAny _ _ (subscriptTail _ _ (Value.ref _) (Value.int _ _)) _ _ _); k_dflt (refine' item_led (by k_asm) (by k_mem) (by omega) (by omega) (by with_reducible assumption) ?_ (by with_unfolding_all rfl); k_whole))
  k_with "call ref" => (k_here; k_dflt (refine' TelM.useV (tel_takeS ?_ ?_) (by k_asm) (by k_asm) (by k_asm) (by k_asm) (by k_asm) (by first | exact rfl | assumption) (by ktr_room) (by ktr_units) (by k_updF) (by exact fun _ _ => trivial) ?_; (assumption); (omega)); intro r9kw o9kw tl9kw h9kw tk9kw F9kw N9kw hl9kw ho9kw; (try simp only [List.cons_append, List.nil_append, List.append_assoc] at N9kw); (try simp only [List.forall_mem_cons, List.forall_mem_append, List.cons_append, List.nil_append, List.not_mem_nil, false_implies, implies_true, and_true] at hl9kw); (repeat' (obtain ⟨_, hl9kw⟩ := hl9kw)); obtain ⟨_, _, hs9kw, d9kw, k9kw, e9kw, hd9kw⟩ := ho9kw; subst e9kw; (try dsimp only); (try k_fold))
  k_with "subscriptTail" => (k_here; (with_reducible show wpAny _ _ (subscriptTail _ _ (Value.ref _) (Value.int _ _)) _ _ _); k_dflt (refine' item_led (by k_asm) (by k_mem) (by omega) (by omega) (by exact List.getElem?_eq_getElem (by omega)) ?_ (by with_unfolding_all rfl); k_whole))
  intro prog w p loose mean mg mb dp un gd cn cs a ccd cl outer A₀ base h₀ L m news s Q E B F X N hnb T hk hP hd hu hret
  have hlb : @Ne Nat l b := hnb _ hP
  (refine wpAny_call ?_; k_dflt ktr_enter)
  k_steps
  (have r9kw := trivial; have o9kw := trivial; have tl9kw := trivial; have h9kw := trivial; have tk9kw := trivial; have F9kw := trivial; have N9kw := trivial; have hl9kw := trivial; have ho9kw := trivial; have hs9kw := trivial; have d9kw := trivial; have k9kw := trivial; have e9kw := trivial; have hd9kw := trivial; rename_i o9 tl9 h9 tk9 F9 N9 hb9 hl9 w9 hw9 hs9 d9 k9 hd9 kF9 kN9 Tc9 kX9; clear r9kw o9kw tl9kw h9kw tk9kw F9kw N9kw hl9kw ho9kw hs9kw d9kw k9kw e9kw hd9kw)
  exact hret _ o9 tl9 _ _ (by k_asm) (by k_asm) hb9 hl9 ⟨hs9, d9.toNat, List.getElem?_eq_getElem (by omega)⟩
end
section
noncomputable def CtOk (c : CoT) : Prop := 3 ≤ c.1.length ∧ c.1.length ≤ 5 ∧ ∀ p ∈ c.1, -4 ≤ p.1 ∧ p.1 ≤ 16 ∧ -2 ≤ p.2 ∧ p.2 ≤ 14
theorem TelM.useU {f : Addr} {dd uu : Nat} {vs : List Value} {b : Addr} {o : Obj} {Out : Obj → Value → Prop} (C : TelM f dd uu vs b o (fun _ => True) (fun o' _ r => Out o' r))
    {prog : Program} {w : World} {p : Program} {loose : List Str} {mean : ExcName → Option Value} {mg mb : Str → Option Value} {dp un : Nat} {gd : Option (List Code)} {cn : Str} {cs : Scope} {a : Addr} {ccd : Value} {cl : List (Str × Addr)} {outer : List Env} {A₀ : Around} {base h₀ : Heap} {L : Addr} {m : Str → Option Value} {all : List (Addr × Obj)} {g : Obj → List (Addr × Obj)} {s : Shared}
    {Q E : Value → Shared → Prop} (B : Below A₀ base outer h₀) (F : Fr h₀ L s.heap m) (X : (hK w.params).In h₀) (N : News h₀ L s.heap all) (T : Top p loose mean mg mb h₀) (hk : cs.kind = .function)
    (hd : dp + dd < recursionLimit) (hu : un + uu < cLine) (U : UpdF b o all g)
    (ret : ∀ r o' tl h' tk', Fr h₀ L h' m → News h₀ L h' (g o' ++ tl) → (∀ q ∈ all, ∀ p ∈ tl, q.1 < p.1) → Out o' r → Q r { s with heap := h', toks := tk' }) :
    wpAny (model prog w) (ktrTop dp un gd cn cs L a ccd cl outer) (call (.ref f) vs) Q E s := by
  obtain ⟨pre, post, rfl, hg, h1, h2⟩ := U.split
  refine C _ _ _ _ _ _ _ _ _ _ _ _ _ _ _ _ _ _ _ _ _ (pre ++ post) _ _ _ B F X (fun p hp => N p ?_) (fun p hp => ?_) T hk trivial hd hu fun r o' tl h' tk' F' N' l1 l2 hO => ret r o' tl h' tk' F' (fun p hp => N' p ?_) (fun q hq p hp => ?_) hO
  · simp only [List.mem_cons, List.mem_append] at hp ⊢; grind
  · rcases List.mem_append.mp hp with hp | hp
    · exact h1 p hp
    · exact h2 p hp
  · rw [hg] at hp; simp only [List.mem_cons, List.mem_append] at hp ⊢; grind
  · rcases List.mem_append.mp hq with hq | hq
    · exact l2 q (List.mem_append_left _ hq) p hp
    · rcases List.mem_cons.mp hq with rfl | hq
      · exact l1 p hp
      · exact l2 q (List.mem_append_right _ hq) p hp
set_option maxHeartbeats 4000000 in
theorem tel_contours {b : Addr} {o : Obj} (ho : SrcOk o) :
    TelM 221 32 256 [.ref b] b o (fun _ => True) (fun o' news r => SrcOk o' ∧ ∃ (D : Addr) (out : List Value) (e : Nat) (cts : List CoT), r = .ref D ∧ (D, listOf (List.toArray out) e) ∈ news ∧ DatAll news out (cts.map coD) ∧ 1 ≤ cts.length ∧ cts.length ≤ 2 ∧ ∀ c ∈ cts, CtOk c) := by
  k_with_none
  k_with "call builtin:len" => (k_here; (with_reducible show wpAny _ _ (call (Value.builtin "len") [Value.ref _]) _ _ _); k_dflt (refine' len_led (by k_asm) (by k_mem) (by ((try simp only [List.length_append, List.length_cons, List.length_nil]); omega)) ?_; k_whole))
  k_with "subscriptTail" => (k_here; (with_reducible show wpAny _ _ (subscriptTail _ _ (Value.ref _) (Value.int _ _)) _ _ _); k_dflt (refine' item_led (by k_asm) (by k_mem) (by omega) (by omega) (by with_reducible assumption) ?_ (by with_unfolding_all rfl); k_whole))
  k_with "call ref" => (k_here; k_dflt (refine' TelM.useU (tel_takeS ?_ ?_) (by k_asm) (by k_asm) (by k_asm) (by k_asm) (by k_asm) (by first | exact rfl | assumption) (by ktr_room) (by ktr_units) (by k_updF) ?_; (assumption); (omega)); intro r9kw o9kw tl9kw h9kw tk9kw F9kw N9kw hl9kw ho9kw; (try simp only [List.cons_append, List.nil_append, List.append_assoc] at N9kw); (try simp only [List.forall_mem_cons, List.forall_mem_append, List.cons_append, List.nil_append, List.not_mem_nil, false_implies, implies_true, and_true] at hl9kw); (repeat' (obtain ⟨_, hl9kw⟩ := hl9kw)); obtain ⟨hs9kw, d9kw, k9kw, e9kw, hd9kw⟩ := ho9kw; subst e9kw; (try dsimp only); (try k_fold))
  k_with "pyIter ref" => (k_here; (refine stopHere ?_))
  k_with "exec For Name Call cons nil" => (k_here; k_dflt (refine' For_at ?_ (by intro _; with_unfolding_all rfl)))
  k_with "CompSrc" => (k_here; (refine stopHere ?_))
  k_with "CompEnd" => (k_here; (refine stopHere ?_))
  k_with "call type:tuple" => (k_here; k_dflt (refine' kde_tupleOf (by k_asm) (by k_asm) (by exact News.isList (by k_asm) (by k_mem)) (by (simp only [List.size_toArray]; omega)) (by exact rfl) ?_; k_whole); intro D'kw h'kw F'kw N'kw l1kw; (try k_lt l1kw); (try k_sweep))
  intro prog w p loose mean mg mb dp un gd cn cs a ccd cl outer A₀ base h₀ L m news s Q E B F X N hnb T hk hP hd hu hret
  (refine wpAny_call ?_; k_dflt (refine' code_defC ?k1 ?k2 ?k3 ?k4 ?k5 ?kA ?kF ?kK ?k6 ?k7 ?k8 ?k9 ?kB ?kD ?_ ?c2 ?c3 ?c4; (case kA => exact rfl); (case kF => exact rfl); (case kK => assumption); (case k1 => k_asm); (case k2 => k_asm); (case k3 => k_asm); (case k4 => k_asm); (case k5 => k_asm); (case k6 => k_is); (case k7 => k_is); (case k8 => ktr_room); (case k9 => exact BindsTo.of_eq rfl); (case kB => exact rfl); (case kD => decide +kernel); (case c2 => exact rfl); (case c3 => exact rfl); (case c4 => exact rfl); k_whole; intro g' L' h' tk' cells' FG' F' N' Y' B' X' T' l1; (try k_lt l1); k_cells Y'; (try simp only [List.cons_append, List.nil_append] at N'); (try dsimp only); (try k_fold)))
  k_steps
  (have r9kw := trivial; have o9kw := trivial; have tl9kw := trivial; have h9kw := trivial; have tk9kw := trivial; have F9kw := trivial; have N9kw := trivial; have hl9kw := trivial; have ho9kw := trivial; have hs9kw := trivial; have d9kw := trivial; have k9kw := trivial; have e9kw := trivial; have hd9kw := trivial; have D'kw := trivial; have h'kw := trivial; have F'kw := trivial; have N'kw := trivial; have l1kw := trivial; rename_i oc hdc l hh0 lhL lhb lhn hh1 F1 N1 o9 tl9 h9 tk9 F2 N2 ll1 ll2 ll3 ll4 hs9 d9 k9 hd9 h3 tk3 t3 u3 v3 hr F3 N3 hk3; clear r9kw o9kw tl9kw h9kw tk9kw F9kw N9kw hl9kw ho9kw hs9kw d9kw k9kw e9kw hd9kw D'kw h'kw F'kw N'kw l1kw)
  replace hdc : oc.data = .cell (some (.ref b)) := hdc
  obtain ⟨n, hn, hn2⟩ : ∃ n : Nat, (n : Int) = 1 + (if (d9 == 0) = true then 1 else 0) ∧ 1 ≤ n ∧ n ≤ 2 := by
    by_cases h0 : (d9 == 0) = true
    · exact ⟨2, by rw [if_pos h0]; rfl, by omega⟩
    · exact ⟨1, by rw [if_neg h0]; rfl, by omega⟩
  rw [← hn] at hr
  refine StopAt.go ?_
  refine iter_range (n := n) (σ := List Value × Nat × Obj × List CoT) (fun c => [(l, listOf c.1.toArray c.2.1), (b, c.2.2.1)]) ((L' + 1, oc) :: (news ++ tl9)) (fun _ => []) ["turn", "spots"] [l, b]
    (fun i S c => SrcOk c.2.2.1 ∧ DatAll S c.1 (c.2.2.2.map coD) ∧ c.2.2.2.length = i ∧ ∀ ct ∈ c.2.2.2, CtOk ct) ([], 0, o9, []) rfl hr ?small ?size F3 N3 (by ((try dsimp only); (repeat' (first | (refine List.forall_mem_append.mpr ⟨?_, ?_⟩) | (refine List.forall_mem_cons.mpr ⟨?_, ?_⟩) | exact List.forall_mem_nil _ | exact (fun p9 hp9 => by simp only [List.mem_append, List.mem_cons, hp9, true_or, or_true]) | k_mem)))) (fun _ => rfl) ?dis (fun _ hp => nomatch hp) ⟨hs9, .nil, rfl, fun _ h => nomatch h⟩ (by passes_own) ?turn ?done
  (case small => exact range_small (by omega))
  (case size => exact range_size)
  (case dis =>
    intro p hp a ha
    have hl9 : ∀ p ∈ (L' + 1, oc) :: (news ++ tl9), p.1 ≠ l ∧ p.1 ≠ b := by
      simp only [List.forall_mem_cons, List.forall_mem_append]
      exact ⟨⟨Nat.ne_of_lt lhL, Nat.ne_of_gt (Nat.lt_succ_of_lt (by assumption))⟩, fun p hp => ⟨Nat.ne_of_lt (lhn p hp), hnb p hp⟩, fun p hp => ⟨Nat.ne_of_gt (ll1 p hp), Nat.ne_of_gt (ll3 p hp)⟩⟩
    rcases List.mem_cons.mp ha with rfl | ha
    · exact (hl9 p hp).1
    · rw [List.mem_singleton.mp ha]; exact (hl9 p hp).2)
  (case done =>
    intro c tl u h tk hP hord F' N'
    obtain ⟨cv, cnn, ob, cts⟩ := c
    obtain ⟨hso, hD, hlen, hok⟩ := hP
    dsimp only at hso hD hlen hok F' N' hord
    simp only [List.cons_append, List.nil_append] at N'
    simp only [List.forall_mem_cons, List.forall_mem_append, List.cons_append, List.nil_append] at hord
    obtain ⟨hr1, hr2, hr3, hr4, hr5⟩ := hord
    k_steps
    refine hret _ ob ((l, listOf cv.toArray cnn) :: (L' + 1, oc) :: (tl9 ++ tl)) _ _ (by k_asm) (nwX (by k_asm) ?sub) ?lb ?ord ⟨hso, l, cv, cnn, cts, rfl, List.mem_append_right _ (.head _), DatAll.mono ?dat hD, by omega, by omega, hok⟩
    (case sub => intro p hp; simp only [List.mem_cons, List.mem_append] at hp ⊢; grind)
    (case lb =>
      simp only [List.forall_mem_cons, List.forall_mem_append]
      exact ⟨lhb, Nat.lt_succ_of_lt (by assumption), ll3, hr2⟩)
    (case ord =>
      intro q hq
      simp only [List.forall_mem_cons, List.forall_mem_append]
      exact ⟨lhn q hq, Nat.lt_succ_of_lt (l1 q hq), ll4 q hq, hr4 q hq⟩)
    (case dat => intro p hp; simp only [List.mem_cons, List.mem_append] at hp ⊢; grind))
  intro i c S u h tk own t hi hP hcst hoff F' N' QL hQL
  obtain ⟨cv, cnn, ob, cts⟩ := c
  obtain ⟨hso, hD, hlen, hok⟩ := hP
  dsimp only at hso hD hlen hok F' N'
  have hoffS : ∀ p ∈ S, p.1 ≠ l := fun p hp => hoff p (List.mem_append_left _ hp) l (.head _)
  have hoffO : ∀ p ∈ own, p.1 ≠ l := fun p hp => hoff p (List.mem_append_right _ hp) l (.head _)
  have hoffSb : ∀ p ∈ S, p.1 ≠ b := fun p hp => hoff p (List.mem_append_left _ hp) b (.tail _ (.head _))
  have hoffOb : ∀ p ∈ own, p.1 ≠ b := fun p hp => hoff p (List.mem_append_right _ hp) b (.tail _ (.head _))
  clear hoff
  have hcm : (L' + 1, oc) ∈ S := hcst _ (.head _)
  have hcvl : cv.length ≤ 4 := by rw [DatAll.length hD, List.length_map]; omega
  simp only [List.cons_append, List.nil_append] at N'
  k_steps
  (have r9kw := trivial; have o9kw := trivial; have tl9kw := trivial; have h9kw := trivial; have tk9kw := trivial; have F9kw := trivial; have N9kw := trivial; have hl9kw := trivial; have ho9kw := trivial; have hs9kw := trivial; have d9kw := trivial; have k9kw := trivial; have e9kw := trivial; have hd9kw := trivial; have D'kw := trivial; have h'kw := trivial; have F'kw := trivial; have N'kw := trivial; have l1kw := trivial; rename_i hA FA NA o8 tlA hB tkB FB NB la1 la2 la3 la4 hs8 d8 k8 hd8 hC tkC tC uC vC hrC FC NC hkC; clear r9kw o9kw tl9kw h9kw tk9kw F9kw N9kw hl9kw ho9kw hs9kw d9kw k9kw e9kw hd9kw D'kw h'kw F'kw N'kw l1kw)
  obtain ⟨n3, hn3, hn4⟩ : ∃ n3 : Nat, (n3 : Int) = 3 + d8 ∧ 3 ≤ n3 ∧ n3 ≤ 5 := ⟨(3 + d8).toNat, by omega, by omega, by omega⟩
  rw [← hn3] at hrC
  refine StopAt.go ?_
  refine LCg.CompSrc.range (n := n3) rfl FC NC hrC (range_small (by omega)) (range_size) (by rw [sizeLine_eq]; omega) ?_
  intro g1
  refine comp_inv (fun i ys nw => ∃ o'' tl'' sp, nw = (l, listOf cv.toArray cnn) :: (b, o'') :: (S ++ (own ++ (tlA ++ tl''))) ∧ SrcOk o'' ∧ (∀ q ∈ (l, listOf cv.toArray cnn) :: (b, o8) :: (S ++ (own ++ tlA)), ∀ p ∈ tl'', q.1 < p.1) ∧
    DatAll tl'' ys (sp.map spD) ∧ sp.length = i ∧ ∀ p ∈ sp, -4 ≤ p.1 ∧ p.1 ≤ 16 ∧ -2 ≤ p.2 ∧ p.2 ≤ 14) ⟨o8, [], [], by simp, hs8, (fun _ _ _ h => nomatch h), .nil, rfl, fun _ h => nomatch h⟩ ?step ?done
  (case step =>
    intro i3 ys nw v I oI C oC D m₂ h3 tk3 E' hi3 hI hv hC hx F3 N3 off ne3
    obtain ⟨o4, tl4, sp, rfl, hs4, hord4, hD4, hl4, hok4⟩ := hI
    simp only [List.forall_mem_cons, List.forall_mem_append] at off hord4
    obtain ⟨ofl, ofb, ofS, ofO, ofA, of4⟩ := off
    obtain ⟨ord1, ord2, ord3, ord4, ord5⟩ := hord4
    obtain ⟨neIC, neID, neCD⟩ := ne3
    obtain ⟨ofl1, ofl2, ofl3⟩ := ofl
    obtain ⟨ofb1, ofb2, ofb3⟩ := ofb
    have hIb : @Ne Nat I b := fun e => ofb1 e.symm
    have hCb : @Ne Nat C b := fun e => ofb2 e.symm
    have hDb : @Ne Nat D b := fun e => ofb3 e.symm
    k_steps
    (have r9kw := trivial; have o9kw := trivial; have tl9kw := trivial; have h9kw := trivial; have tk9kw := trivial; have F9kw := trivial; have N9kw := trivial; have hl9kw := trivial; have ho9kw := trivial; have hs9kw := trivial; have d9kw := trivial; have k9kw := trivial; have e9kw := trivial; have hd9kw := trivial; have D'kw := trivial; have h'kw := trivial; have F'kw := trivial; have N'kw := trivial; have l1kw := trivial; rename_i oX tlX hX tkX lx1 lx2 lx3 lx4 lx5 lx6 lx7 lx8 lx9 hsX dX kX hdX qkA ekA cE2 qkB ekB oY tlY hY tkY ly1 ly2 ly3 ly4 ly5 ly6 ly7 ly8 ly9 ly10 hsY dY kY hdY T1 hT FT NT lt1 lt2 lt3 lt4 lt5 lt6 lt7 lt8 lt9 lt10 lt11; clear r9kw o9kw tl9kw h9kw tk9kw F9kw N9kw hl9kw ho9kw hs9kw d9kw k9kw e9kw hd9kw D'kw h'kw F'kw N'kw l1kw)
    refine StopAt.go ?_
    refine LCg.CompEnd.intro FT NT ((l, listOf cv.toArray cnn) :: (b, oY) :: (S ++ (own ++ (tlA ++ (tl4 ++ (tlX ++ (tlY ++ [(T1, tupOf [.int (dX - 4) (tkX + 1), .int (dY - 2) (tkY + 1)] 0)]))))))) ?sub (LCg.Off3.of ?off) trivial
      ⟨oY, tl4 ++ (tlX ++ (tlY ++ [(T1, tupOf [.int (dX - 4) (tkX + 1), .int (dY - 2) (tkY + 1)] 0)])), sp ++ [(dX - 4, dY - 2)], rfl, hsY, ?ord, ?dat, ?len, ?bnd⟩
    (case sub => intro p hp; simp only [List.mem_cons, List.mem_append, List.not_mem_nil, or_false] at hp ⊢; grind)
    (case off =>
      simp only [List.forall_mem_cons, List.forall_mem_append, List.not_mem_nil, false_implies, implies_true, and_true]
      exact ⟨⟨ofl1, ofl2, ofl3⟩, ⟨ofb1, ofb2, ofb3⟩, ofS, ofO, ofA, of4, fun p hp => ⟨Nat.ne_of_gt (lx1 p hp), Nat.ne_of_gt (lx2 p hp), Nat.ne_of_gt (lx3 p hp)⟩, fun p hp => ⟨Nat.ne_of_gt (ly1 p hp), Nat.ne_of_gt (ly2 p hp), Nat.ne_of_gt (ly3 p hp)⟩, Nat.ne_of_gt lt1, Nat.ne_of_gt lt2, Nat.ne_of_gt lt3⟩)
    (case ord =>
      simp only [List.forall_mem_cons, List.forall_mem_append, List.not_mem_nil, false_implies, implies_true, and_true]
      exact ⟨⟨ord1, lx4, ly4, lt4⟩, ⟨ord2, lx5, ly5, lt5⟩, fun x hx => ⟨ord3 x hx, lx6 x hx, ly6 x hx, lt6 x hx⟩, fun x hx => ⟨ord4 x hx, lx7 x hx, ly7 x hx, lt7 x hx⟩, fun x hx => ⟨ord5 x hx, lx8 x hx, ly8 x hx, lt8 x hx⟩⟩)
    (case dat =>
      rw [List.map_append]
      exact DatAll.append (DatAll.mono (fun p hp => List.mem_append_left _ hp) hD4) (.one (.tuple (vs := [.int (dX - 4) (tkX + 1), .int (dY - 2) (tkY + 1)]) (n := 0) (by simp) (.cons (.int _ _) (.cons (.int _ _) .nil)))))
    (case len => rw [List.length_append, hl4]; rfl)
    (case bnd =>
      intro p hp
      rcases List.mem_append.mp hp with hp | hp
      · exact hok4 p hp
      · rw [List.mem_singleton.mp hp]; dsimp only; omega))
  intro ys nw hI
  obtain ⟨o4, tl4, sp, rfl, hs4, hord4, hD4, hl4, hok4⟩ := hI
  simp only [List.forall_mem_cons, List.forall_mem_append] at hord4
  obtain ⟨ord1, ord2, ord3, ord4, ord5⟩ := hord4
  have hyl : ys.length ≤ 5 := by rw [DatAll.length hD4, List.length_map]; omega
  k_steps
  (have r9kw := trivial; have o9kw := trivial; have tl9kw := trivial; have h9kw := trivial; have tk9kw := trivial; have F9kw := trivial; have N9kw := trivial; have hl9kw := trivial; have ho9kw := trivial; have hs9kw := trivial; have d9kw := trivial; have k9kw := trivial; have e9kw := trivial; have hd9kw := trivial; have D'kw := trivial; have h'kw := trivial; have F'kw := trivial; have N'kw := trivial; have l1kw := trivial; rename_i Dc hc1 tkc o1c T1 hc2 lt1 lt2 lt3 lt4 lt5 lt6 lt7 oZ tlZ hZ tkZ lz1 lz2 lz3 lz4 lz5 lz6 lz7 lz8 hsZ dZ kZ hdZ T2 hc3 lu1 lu2 lu3 lu4 lu5 lu6 lu7 lu8 lu9 hc4 FZ NZ; clear r9kw o9kw tl9kw h9kw tk9kw F9kw N9kw hl9kw ho9kw hs9kw d9kw k9kw e9kw hd9kw D'kw h'kw F'kw N'kw l1kw)
  (try simp only [List.push_toArray] at NZ)
  (refine' hQL _ _ (lpost_next (cv ++ [.ref T2], cnn + 1, oZ, cts ++ [(sp, (dZ == 0))]) ((T2, tupOf [.ref T1, .bool (dZ == 0)] 0) :: (T1, tupOf ys 0) :: (tlA ++ (tl4 ++ tlZ))) ?fr1 ?nw1 ?sub1 ?own1 ?ord1 ?ps1 ?rest1 ?P1); (case fr1 => k_asm); (case nw1 => k_asm); (case sub1 => ((try dsimp only); (repeat' (first | (refine List.forall_mem_append.mpr ⟨?_, ?_⟩) | (refine List.forall_mem_cons.mpr ⟨?_, ?_⟩) | exact List.forall_mem_nil _ | exact (fun p9 hp9 => by simp only [List.mem_append, List.mem_cons, hp9, true_or, or_true]) | k_mem)))); (case own1 => ((try dsimp only); (repeat' (first | (refine List.forall_mem_append.mpr ⟨?_, ?_⟩) | (refine List.forall_mem_cons.mpr ⟨?_, ?_⟩) | exact List.forall_mem_nil _ | exact (fun p9 hp9 => by simp only [List.mem_append, List.mem_cons, hp9, true_or, or_true]) | k_mem)))); (case ord1 => ((try dsimp only); (try simp only [List.forall_mem_cons, List.forall_mem_append, List.cons_append, List.nil_append, List.not_mem_nil, false_implies, implies_true, and_true, forall_and, imp_and]); (repeat' (apply And.intro)); all_goals (first | assumption | (refine ltN ?_; omega) | exact (fun _ _ => List.forall_mem_nil _)))); (case ps1 => ((try dsimp only); (repeat' (first | exact List.forall_mem_nil _ | (refine List.forall_mem_cons.mpr ⟨?_, ?_⟩) | rfl | (with_unfolding_all rfl))))); (case rest1 => (intro z9 h8 h9; (try simp only [List.forall_mem_cons, List.not_mem_nil, false_implies, implies_true, and_true, ne_eq] at h8); simp only [List.contains_cons, List.contains_nil, Bool.or_false, Bool.or_eq_false_iff, beq_eq_false_iff_ne, ne_eq] at h9; simp [frm, kstB, h8, h9])); (case P1 => (
      refine ⟨hsZ, ?_, by dsimp only; rw [List.length_append, hlen]; rfl, ?_⟩
      · dsimp only
        rw [List.map_append]
        refine DatAll.append (DatAll.mono (fun p hp => List.mem_append_left _ hp) hD) (.one (.tuple (vs := [.ref T1, .bool (dZ == 0)]) (n := 0) (List.mem_append_right _ (.head _)) (.cons (.tuple (vs := ys) (n := 0) (List.mem_append_right _ (.tail _ (.head _))) (DatAll.mono (fun p hp => ?_) hD4)) (.cons (.bool _) .nil))))
        simp only [List.mem_append, List.mem_cons, hp, true_or, or_true]
      · intro ct hct
        rcases List.mem_append.mp hct with hct | hct
        · exact hok ct hct
        · rw [List.mem_singleton.mp hct]
          exact ⟨by dsimp only; omega, by dsimp only; omega, hok4⟩)))
end
section
set_option maxHeartbeats 4000000 in
theorem tel_pool {l : Addr} {vs : List Value} {ns : List Int} {k : Int} {t : Nat} (hi : IntsAre vs ns) (hn : ns.length ≤ 63) (hk0 : 0 ≤ k ∧ k ≤ 1)
    (prog : Program) (w : World) (p : Program) (loose : List Str) (mean : ExcName → Option Value) (mg mb : Str → Option Value)
    (dp un : Nat) (gd : Option (List Code)) (cn : Str) (cs : Scope) (a : Addr) (ccd : Value) (cl : List (Str × Addr)) (outer : List Env) (A₀ : Around) (base h₀ : Heap) (L : Addr) (m : Str → Option Value) (news : List (Addr × Obj)) (s : Shared)
    (Q E : Value → Shared → Prop) (B : Below A₀ base outer h₀) (F : Fr h₀ L s.heap m) (X : (hK w.params).In h₀) (N : News h₀ L s.heap news) (T : Top p loose mean mg mb h₀) (hk : cs.kind = .function) (hl : h₀.IsList l vs.toArray) (hd : dp + 8 < recursionLimit) (hu : un + 64 < cLine)
    (hret : ∀ r tl h' tk', Fr h₀ L h' m → News h₀ L h' (news ++ tl) → (∀ q ∈ news, ∀ p ∈ tl, q.1 < p.1) → (∃ D o, r = .ref D ∧ (D, o) ∈ tl ∧ SrcOk o) → Q r { s with heap := h', toks := tk' }) :
    wpAny (model prog w) (ktrTop dp un gd cn cs L a ccd cl outer) (call (.ref 202) [.ref l, .int k t]) Q E s := by
  k_with_none
  k_with "call builtin:len" => (k_here; (with_reducible show wpAny _ _ (call (Value.builtin "len") [Value.ref _]) _ _ _); k_dflt (refine' len_led (by k_asm) (by k_mem) (by ((try simp only [List.length_append, List.length_cons, List.length_nil]); omega)) ?_; k_whole))
  k_with "subscriptTail" => (k_here; (with_reducible show wpAny _ _ (subscriptTail _ _ (Value.ref _) (Value.int _ _)) _ _ _); k_dflt (refine' item_led (by k_asm) (by k_mem) (by omega) (by omega) (by with_reducible assumption) ?_ (by with_unfolding_all rfl); k_whole))
  (refine wpAny_call ?_; k_dflt ktr_enter)
  rename_i g1 L1 hh0 FG1 F1 N1 B1 X1 T1
  have hl1 : g1.IsList l vs.toArray := hl.at fun o e => FG1.keep _ o e
  have hvl : vs.length = ns.length := hi.length
  k_steps
  all_goals
    rename_i lF hF FF NF lo9 kF9 kN9 Tc9 kX9
    refine hret _ _ _ _ (by k_asm) (ktn_tl1 (by k_asm)) (fun q hq p hp => by rw [List.mem_singleton.mp hp]; exact lo9 q hq) ⟨_, _, rfl, .head _, _, _, _, _, _, rfl, ?_, fmod_b _ (by decide)⟩
    exact Int.mul_nonneg (by (repeat' split) <;> omega) (by (repeat' split) <;> decide)
end
section
section
variable {prog : Program} {w : World} {A : Around} {E : Value → Shared → Prop} {s : Shared} {h₀ : Heap} {L : Addr} {m : Str → Option Value} {news news' : List (Addr × Obj)}
theorem insert_led {D : Addr} {vals : List Value} {nn : Nat} {k : Int} {u : Tok} {y : Value} {Q : Value → Shared → Prop} (F : Fr h₀ L s.heap m) (N : News h₀ L s.heap news) (U : Upd D (listOf vals.toArray nn) (listOf (vals.take k.toNat ++ y :: vals.drop k.toNat).toArray (nn + 1)) news news')
    (h0 : 0 ≤ k) (hk : k ≤ (vals.length : Int)) (hz : vals.length < 1000000) (h : ∀ h', Fr h₀ L h' m → News h₀ L h' news' → Q .none { s with heap := h' }) : wpAny (model prog w) A (call (.builtin "list.insert") [.ref D, .int k u, y]) Q E s := by
  refine kl_insert F N (by unfold Builtin.List.listFitsIndex; simp; omega) ?_ U (by rw [sizeLine_eq]; simp; omega) h
  unfold kl_ins
  have hn : ¬ k < 0 := by omega
  simp only [if_neg hn]
  have hm : min k.toNat vals.toArray.toList.length = k.toNat := by simp; omega
  rw [hm]
end
noncomputable def SDok' (sd : SD) : Prop := -100 ≤ sd.x1 ∧ sd.x1 ≤ 100 ∧ -100 ≤ sd.x2 ∧ sd.x2 ≤ 100 ∧ -100 ≤ sd.y1 ∧ sd.y1 < sd.y2 ∧ sd.y2 ≤ 100
/-- the crossing of a side -/
noncomputable def crOf (sd : SD) (y : Int) : Cr := (sd.x1 * (sd.y2 - sd.y1) + (sd.x2 - sd.x1) * (y - sd.y1), sd.y2 - sd.y1, sd.way)
noncomputable def crsOf (sds : List SD) (y : Int) : List Cr := (sds.filter fun sd => decide (sd.y1 ≤ y ∧ y < sd.y2)).map fun sd => crOf sd y
theorem crsOf_yes {sds : List SD} {i : Nat} {sd : SD} {y : Int} (h : sds[i]? = some sd) (hc : sd.y1 ≤ y ∧ y < sd.y2) : crsOf (sds.take (i + 1)) y = crsOf (sds.take i) y ++ [crOf sd y] := by
  unfold crsOf
  rw [List.take_add_one, h]
  simp [hc]
theorem crsOf_no {sds : List SD} {i : Nat} {sd : SD} {y : Int} (h : sds[i]? = some sd) (hc : ¬ (sd.y1 ≤ y ∧ y < sd.y2)) : crsOf (sds.take (i + 1)) y = crsOf (sds.take i) y := by
  unfold crsOf
  rw [List.take_add_one, h]
  simp [hc]
theorem crsOf_den {sds : List SD} {y : Int} (hok : ∀ sd ∈ sds, SDok' sd) : ∀ cr ∈ crsOf sds y, 0 < cr.2.1 ∧ cr.2.1 < 1000000 := by
  intro cr hc
  unfold crsOf at hc
  obtain ⟨sd, hsd, rfl⟩ := List.mem_map.mp hc
  have := hok sd (List.mem_filter.mp hsd).1
  unfold SDok' at this
  unfold crOf
  dsimp only
  omega
set_option maxHeartbeats 4000000 in
theorem tel_crossings {l : Addr} {vs : List Value} {nn : Nat} {sds : List SD} {y : Int} {t0 : Nat} (hok : ∀ sd ∈ sds, SDok' sd) (hy : -100 ≤ y ∧ y ≤ 100) (h64 : sds.length < 64) :
    Tel 61 32 256 [.ref l, .int y t0] (fun news => (l, listOf vs.toArray nn) ∈ news ∧ All2 (SideIn news) vs sds) (fun news r => ∃ (D : Addr) (out : List Value) (e : Nat) (crs : List Cr), r = .ref D ∧ (D, listOf (List.toArray out) e) ∈ news ∧ DatAll news out (crs.map crD) ∧ crs.Perm (crsOf sds y) ∧ crs.Pairwise leC) := by
  k_with_none
  k_with "call builtin:len" => (k_here; (with_reducible show wpAny _ _ (call (Value.builtin "len") [Value.ref _]) _ _ _); k_dflt (refine' len_led (by k_asm) (by k_mem) (by ((try simp only [List.length_append, List.length_cons, List.length_nil]); omega)) ?_; k_whole))
  k_with "subscriptTail" => (k_here; (with_reducible show wpAny _ _ (subscriptTail _ _ (Value.ref _) (Value.int _ _)) _ _ _); k_dflt (refine' item_led (by k_asm) (by k_mem) (by omega) (by omega) (by with_reducible assumption) ?_ (by with_unfolding_all rfl); k_whole))
  k_with "call ref" => (k_here; k_dflt (refine' Tel.useR (by k_asm) (by k_asm) (by k_asm) (by k_asm) (by k_asm) (by first | exact rfl | assumption) (by (first | assumption | (refine' SideIn.mono (by assumption) (by exact (fun p9 hp9 => by simp only [List.mem_append, List.mem_cons, hp9, true_or, or_true]))))) (tel_covers) (by ktr_room) (by ktr_units) ?_); intro r9kw tl9kw h9kw tk9kw F9kw N9kw hl9kw ho9kw; (try simp only [List.cons_append, List.nil_append, List.append_assoc] at N9kw ho9kw); (try simp only [List.forall_mem_cons, List.forall_mem_append, List.cons_append, List.nil_append, List.not_mem_nil, false_implies, implies_true, and_true] at hl9kw); (repeat' (obtain ⟨_, hl9kw⟩ := hl9kw)); subst ho9kw; skip; (try dsimp only); (try k_fold))
  k_with "call ref" => (k_here; k_dflt (refine' Tel2.useR (by k_asm) (by k_asm) (by k_asm) (by k_asm) (by k_asm) (by first | exact rfl | assumption) (by (first | assumption | (refine' SideIn.mono (by assumption) (by exact (fun p9 hp9 => by simp only [List.mem_append, List.mem_cons, hp9, true_or, or_true]))))) (tel_place_at2 (by omega) (by omega)) (by ktr_room) (by ktr_units) ?_); intro r9kw tl9kw h9kw tk9kw F9kw N9kw hl9kw ho9kw; (try simp only [List.cons_append, List.nil_append, List.append_assoc] at N9kw ho9kw); (try simp only [List.forall_mem_cons, List.forall_mem_append, List.cons_append, List.nil_append, List.not_mem_nil, false_implies, implies_true, and_true] at hl9kw); (repeat' (obtain ⟨_, hl9kw⟩ := hl9kw)); skip; (try dsimp only); (try k_fold))
  k_with "call ref" => (k_here; k_dflt (refine' Tel.useR (by k_asm) (by k_asm) (by k_asm) (by k_asm) (by k_asm) (by first | exact rfl | assumption) (by (refine' And.intro (by (first | assumption | (refine' DatIn.mono ?_ (by assumption); (exact (fun p9 hp9 => by simp only [List.mem_append, List.mem_cons, hp9, true_or, or_true]))))) (by (first | assumption | (refine' DatIn.mono ?_ (by assumption); (exact (fun p9 hp9 => by simp only [List.mem_append, List.mem_cons, hp9, true_or, or_true]))))))) (tel_comes_behind (by assumption) (by assumption)) (by ktr_room) (by ktr_units) ?_); intro r9kw tl9kw h9kw tk9kw F9kw N9kw hl9kw ho9kw; (try simp only [List.cons_append, List.nil_append, List.append_assoc] at N9kw ho9kw); (try simp only [List.forall_mem_cons, List.forall_mem_append, List.cons_append, List.nil_append, List.not_mem_nil, false_implies, implies_true, and_true] at hl9kw); (repeat' (obtain ⟨_, hl9kw⟩ := hl9kw)); subst ho9kw; skip; (try dsimp only); (try k_fold))
  k_with "exec For Name Name cons nil" => (k_here; k_dflt (refine' For_at ?_ (by intro _; with_unfolding_all rfl)))
  k_with "exec While BoolOp cons nil" => (k_here; (refine stopHere ?_))
  k_with "call builtin:list.insert" => (k_here; k_dflt (refine' insert_led (by k_asm) (by k_asm) (by k_upd) (by omega) (by omega) (by omega) ?_; k_whole); intro h'kw F'kw N'kw; (try k_sweep))
  intro prog w p loose mean mg mb dp un gd cn cs a ccd cl outer A₀ base h₀ L m news s Q E B F X N T hk hP hd hu hret
  obtain ⟨hl, hvs⟩ := hP
  (refine wpAny_call ?_; k_dflt ktr_enter)
  k_steps
  (have r9kw := trivial; have tl9kw := trivial; have h9kw := trivial; have tk9kw := trivial; have F9kw := trivial; have N9kw := trivial; have hl9kw := trivial; have ho9kw := trivial; have h'kw := trivial; have F'kw := trivial; have N'kw := trivial; rename_i g1 L1 hh0 FG1 B1 X1 T1 lF hh1 l1 hh2 F1 N1; clear r9kw tl9kw h9kw tk9kw F9kw N9kw hl9kw ho9kw h'kw F'kw N'kw)
  refine iter_list (σ := List Value × Nat × List Cr) (fun c => [(lF, listOf c.1.toArray c.2.1)]) news (fun _ => []) ["side", "crossing", "at"] [lF]
    (fun i S c => DatAll S c.1 (c.2.2.map crD) ∧ c.2.2.Perm (crsOf (sds.take i) y) ∧ c.2.2.Pairwise leC) ([], 0, []) rfl hl (fun v _ => GoOk.name) F1 N1 (fun p hp => hp) (fun _ => rfl) (fun p hp a ha => by
      rw [List.mem_singleton.mp ha]; exact Nat.ne_of_lt (l1 p hp)) (fun _ hp => nomatch hp) ⟨.nil, .nil, .nil⟩ (by passes_own) ?_ ?_
  · intro i v c S u h tk own hv hP hcst hoff F' N' QL hQL
    obtain ⟨cv, cnn, crs⟩ := c
    obtain ⟨hD, hC, hpw⟩ := hP
    dsimp only at hD hC hpw F' N'
    obtain ⟨sd, hsd, hSI⟩ := hvs.get hv
    replace hSI := hSI.mono hcst
    have hsok := hok sd (List.mem_of_getElem? hsd)
    unfold SDok' at hsok
    have hoffS : ∀ p ∈ S, p.1 ≠ lF := fun p hp => hoff p (List.mem_append_left _ hp) lF (.head _)
    have hoffO : ∀ p ∈ own, p.1 ≠ lF := fun p hp => hoff p (List.mem_append_right _ hp) lF (.head _)
    clear hoff
    have hlen : cv.length ≤ 64 := by
      rw [DatAll.length hD, List.length_map, hC.length_eq]
      unfold crsOf
      rw [List.length_map]
      exact Nat.le_trans (List.length_filter_le _ _) (by rw [List.length_take]; omega)
    have hSI2 := hSI
    obtain ⟨sx, sdd, g1, g2, g3, g4, g5, k1, k2, k3, k4, k5, t1, t2, t3, t4, t5, rfl, sm1, sm2⟩ := hSI2
    simp only [List.cons_append, List.nil_append] at N'
    have hden : ∀ cr ∈ crs, 0 < cr.2.1 ∧ cr.2.1 < 1000000 := fun cr hc => crsOf_den (sds := sds.take i) (y := y) (fun sd h => hok sd (List.mem_of_mem_take h)) cr (hC.mem_iff.mp hc)
    have hvl : cv.length = crs.length := by rw [DatAll.length hD, List.length_map]
    k_steps
    · (have r9kw := trivial; have tl9kw := trivial; have h9kw := trivial; have tk9kw := trivial; have F9kw := trivial; have N9kw := trivial; have hl9kw := trivial; have ho9kw := trivial; have h'kw := trivial; have F'kw := trivial; have N'kw := trivial; rename_i hA tk0 tA hB tkA la1 la2 la3 qk1 ek1 hcov rP tB hC1 tkB hoP lb1 lb2 lb3 lb4 D1 hD1 ld1 ld2 ld3 ld4 ld5 hE1 tkE hE2 F4 N4; clear r9kw tl9kw h9kw tk9kw F9kw N9kw hl9kw ho9kw h'kw F'kw N'kw)
      have hcd : 0 < (crOf sd y).2.1 ∧ (crOf sd y).2.1 < 1000000 := by unfold crOf; dsimp only; omega
      have hcI : ∀ X : List (Addr × Obj), (∀ p ∈ (D1, tupOf [rP, Value.int sd.way t5] 0) :: (lF, listOf cv.toArray cnn) :: (S ++ (own ++ (tA ++ tB))), p ∈ X) → DatIn X (.ref D1) (crD (crOf sd y)) := fun X hX =>
        .tuple (vs := [rP, Value.int sd.way t5]) (hX _ (.head _)) (.cons (DatIn.mono (fun p hp => hX p (by simp only [List.mem_append, List.mem_cons, hp, true_or, or_true])) hoP) (.cons (.int _ _) .nil))
      refine StopAt.go ?_
      refine ksw_while (σ := Int × Nat) (fun _ => (D1, tupOf [rP, Value.int sd.way t5] 0) :: (lF, listOf cv.toArray cnn) :: (S ++ (own ++ (tA ++ tB)))) (fun c => [("at", .int c.1 c.2)]) (fun _ => True) []
        (fun c => 0 ≤ c.1 ∧ c.1 ≤ (cv.length : Int) ∧ ∀ (j : Nat) cr, crs[j]? = some cr → c.1 ≤ (j : Int) → ¬ leC cr (crOf sd y)) (fun c => c.1.toNat) ((cv.length : Int), _) F4 N4 trivial (by ((try dsimp only); (repeat' (first | exact List.forall_mem_nil _ | (refine List.forall_mem_cons.mpr ⟨?_, ?_⟩) | rfl | (with_unfolding_all rfl)))))
        ⟨Int.natCast_nonneg _, Int.le_refl _, fun j cr hj hlj => absurd (List.getElem?_eq_some_iff.mp hj).1 (by dsimp only at hlj; omega)⟩ ?_ (by passes_own)
      intro c u' h2 tk2 _ hPc F5 N5
      obtain ⟨at', tkc⟩ := c
      obtain ⟨hat0, hatn, hbeh⟩ := hPc
      dsimp only at hat0 hatn hbeh F5 N5
      by_cases hpos : 0 < at'
      · obtain ⟨crj, hcrj⟩ : ∃ crj, crs[(at' - 1).toNat]? = some crj := ⟨_, List.getElem?_eq_getElem (by omega)⟩
        obtain ⟨vj, hvj, hIj⟩ := dat_at hD hcrj
        have hdj := hden crj (List.mem_of_getElem? hcrj)
        have hdj' : 0 ≤ crj.2.1 ∧ crj.2.1 < 1000000 := ⟨Int.le_of_lt hdj.1, hdj.2⟩
        have hcd' : 0 ≤ (crOf sd y).2.1 ∧ (crOf sd y).2.1 < 1000000 := ⟨Int.le_of_lt hcd.1, hcd.2⟩
        have hcI' := hcI _ (fun p hp => hp)
        k_steps
        · refine' ksw_end (at' - 1, _) ?F ?N ?hn trivial ?hk ?hr ?hp ?hm
          (case F => k_asm)
          (case N => k_asm)
          (case hn => ((try dsimp only); (repeat' (first | (refine List.forall_mem_append.mpr ⟨?_, ?_⟩) | (refine List.forall_mem_cons.mpr ⟨?_, ?_⟩) | exact List.forall_mem_nil _ | exact (fun p9 hp9 => by simp only [List.mem_append, List.mem_cons, hp9, true_or, or_true]) | k_mem))))
          (case hk => ((try dsimp only); (repeat' (first | exact List.forall_mem_nil _ | (refine List.forall_mem_cons.mpr ⟨?_, ?_⟩) | rfl | (with_unfolding_all rfl)))))
          (case hr => (intro z9 h8 h9; (try simp only [List.forall_mem_cons, List.not_mem_nil, false_implies, implies_true, and_true, ne_eq] at h8); simp only [List.contains_cons, List.contains_nil, Bool.or_false, Bool.or_eq_false_iff, beq_eq_false_iff_ne, ne_eq] at h9; simp [frm, kstB, h8, h9]))
          (case hp =>
            refine ⟨by dsimp only; omega, by dsimp only; omega, fun j cr hj hlj => ?_⟩
            dsimp only at hlj
            by_cases hje : j = (at' - 1).toNat
            · subst hje
              rw [hcrj] at hj
              cases hj
              exact Int.not_le.mpr (by assumption)
            · exact hbeh j cr hj (by omega))
          (case hm => dsimp only; omega)
        (refine' hQL _ _ (lpost_next (cv.take at'.toNat ++ .ref D1 :: cv.drop at'.toNat, cnn + 1, crs.take at'.toNat ++ crOf sd y :: crs.drop at'.toNat) ((D1, tupOf [rP, Value.int sd.way t5] 0) :: tB) ?fr1 ?nw1 ?sub1 ?own1 ?ord1 ?ps1 ?rest1 ?P1); (case fr1 => k_asm); (case nw1 => k_asm); (case sub1 => ((try dsimp only); (repeat' (first | (refine List.forall_mem_append.mpr ⟨?_, ?_⟩) | (refine List.forall_mem_cons.mpr ⟨?_, ?_⟩) | exact List.forall_mem_nil _ | exact (fun p9 hp9 => by simp only [List.mem_append, List.mem_cons, hp9, true_or, or_true]) | k_mem)))); (case own1 => ((try dsimp only); (repeat' (first | (refine List.forall_mem_append.mpr ⟨?_, ?_⟩) | (refine List.forall_mem_cons.mpr ⟨?_, ?_⟩) | exact List.forall_mem_nil _ | exact (fun p9 hp9 => by simp only [List.mem_append, List.mem_cons, hp9, true_or, or_true]) | k_mem)))); (case ord1 => ((try dsimp only); (try simp only [List.forall_mem_cons, List.forall_mem_append, List.cons_append, List.nil_append, List.not_mem_nil, false_implies, implies_true, and_true, forall_and, imp_and]); (repeat' (apply And.intro)); all_goals (first | assumption | (refine ltN ?_; omega) | exact (fun _ _ => List.forall_mem_nil _)))); (case ps1 => ((try dsimp only); (repeat' (first | exact List.forall_mem_nil _ | (refine List.forall_mem_cons.mpr ⟨?_, ?_⟩) | rfl | (with_unfolding_all rfl))))); (case rest1 => (intro z9 h8 h9; (try simp only [List.forall_mem_cons, List.not_mem_nil, false_implies, implies_true, and_true, ne_eq] at h8); simp only [List.contains_cons, List.contains_nil, Bool.or_false, Bool.or_eq_false_iff, beq_eq_false_iff_ne, ne_eq] at h9; simp [frm, kstB, h8, h9])); (case P1 => (
                  refine ⟨dat_ins (DatAll.mono (fun p hp => List.mem_append_left _ hp) hD) (.tuple (vs := [rP, Value.int sd.way t5]) (List.mem_append_right _ (.head _)) (.cons (DatIn.mono (fun p hp => List.mem_append_right _ (.tail _ hp)) hoP) (.cons (.int _ _) .nil))) _, ?_, ?_⟩
                  · dsimp only; rw [crsOf_yes hsd hcov]; exact perm_ins hC
                  · exact pw_ins hpw (fun cr hc => (hden cr hc).1) hcd.1 (by omega) (fun j cr hj hkj => hbeh j cr hj (by omega)) (fun cr hk0 hj => by
                      have hcj : crs[(at' - 1).toNat]? = some cr := by rw [show (at' - 1).toNat = at'.toNat - 1 by omega]; exact hj
                      rw [hcrj] at hcj; cases hcj; exact Int.not_lt.mp (by assumption)))))
      · k_steps
        (refine' hQL _ _ (lpost_next (cv.take at'.toNat ++ .ref D1 :: cv.drop at'.toNat, cnn + 1, crs.take at'.toNat ++ crOf sd y :: crs.drop at'.toNat) ((D1, tupOf [rP, Value.int sd.way t5] 0) :: tB) ?fr2 ?nw2 ?sub2 ?own2 ?ord2 ?ps2 ?rest2 ?P2); (case fr2 => k_asm); (case nw2 => k_asm); (case sub2 => ((try dsimp only); (repeat' (first | (refine List.forall_mem_append.mpr ⟨?_, ?_⟩) | (refine List.forall_mem_cons.mpr ⟨?_, ?_⟩) | exact List.forall_mem_nil _ | exact (fun p9 hp9 => by simp only [List.mem_append, List.mem_cons, hp9, true_or, or_true]) | k_mem)))); (case own2 => ((try dsimp only); (repeat' (first | (refine List.forall_mem_append.mpr ⟨?_, ?_⟩) | (refine List.forall_mem_cons.mpr ⟨?_, ?_⟩) | exact List.forall_mem_nil _ | exact (fun p9 hp9 => by simp only [List.mem_append, List.mem_cons, hp9, true_or, or_true]) | k_mem)))); (case ord2 => ((try dsimp only); (try simp only [List.forall_mem_cons, List.forall_mem_append, List.cons_append, List.nil_append, List.not_mem_nil, false_implies, implies_true, and_true, forall_and, imp_and]); (repeat' (apply And.intro)); all_goals (first | assumption | (refine ltN ?_; omega) | exact (fun _ _ => List.forall_mem_nil _)))); (case ps2 => ((try dsimp only); (repeat' (first | exact List.forall_mem_nil _ | (refine List.forall_mem_cons.mpr ⟨?_, ?_⟩) | rfl | (with_unfolding_all rfl))))); (case rest2 => (intro z9 h8 h9; (try simp only [List.forall_mem_cons, List.not_mem_nil, false_implies, implies_true, and_true, ne_eq] at h8); simp only [List.contains_cons, List.contains_nil, Bool.or_false, Bool.or_eq_false_iff, beq_eq_false_iff_ne, ne_eq] at h9; simp [frm, kstB, h8, h9])); (case P2 => (
                  refine ⟨dat_ins (DatAll.mono (fun p hp => List.mem_append_left _ hp) hD) (.tuple (vs := [rP, Value.int sd.way t5]) (List.mem_append_right _ (.head _)) (.cons (DatIn.mono (fun p hp => List.mem_append_right _ (.tail _ hp)) hoP) (.cons (.int _ _) .nil))) _, ?_, ?_⟩
                  · dsimp only; rw [crsOf_yes hsd hcov]; exact perm_ins hC
                  · exact pw_ins hpw (fun cr hc => (hden cr hc).1) hcd.1 (by omega) (fun j cr hj hkj => hbeh j cr hj (by omega)) (fun cr hk0 hj => absurd hk0 (by omega)))))
    · (refine' hQL _ _ (lpost_next (cv, cnn, crs) ([]) ?fr3 ?nw3 ?sub3 ?own3 ?ord3 ?ps3 ?rest3 ?P3); (case fr3 => k_asm); (case nw3 => k_asm); (case sub3 => ((try dsimp only); (repeat' (first | (refine List.forall_mem_append.mpr ⟨?_, ?_⟩) | (refine List.forall_mem_cons.mpr ⟨?_, ?_⟩) | exact List.forall_mem_nil _ | exact (fun p9 hp9 => by simp only [List.mem_append, List.mem_cons, hp9, true_or, or_true]) | k_mem)))); (case own3 => ((try dsimp only); (repeat' (first | (refine List.forall_mem_append.mpr ⟨?_, ?_⟩) | (refine List.forall_mem_cons.mpr ⟨?_, ?_⟩) | exact List.forall_mem_nil _ | exact (fun p9 hp9 => by simp only [List.mem_append, List.mem_cons, hp9, true_or, or_true]) | k_mem)))); (case ord3 => ((try dsimp only); (try simp only [List.forall_mem_cons, List.forall_mem_append, List.cons_append, List.nil_append, List.not_mem_nil, false_implies, implies_true, and_true, forall_and, imp_and]); (repeat' (apply And.intro)); all_goals (first | assumption | (refine ltN ?_; omega) | exact (fun _ _ => List.forall_mem_nil _)))); (case ps3 => ((try dsimp only); (repeat' (first | exact List.forall_mem_nil _ | (refine List.forall_mem_cons.mpr ⟨?_, ?_⟩) | rfl | (with_unfolding_all rfl))))); (case rest3 => (intro z9 h8 h9; (try simp only [List.forall_mem_cons, List.not_mem_nil, false_implies, implies_true, and_true, ne_eq] at h8); simp only [List.contains_cons, List.contains_nil, Bool.or_false, Bool.or_eq_false_iff, beq_eq_false_iff_ne, ne_eq] at h9; simp [frm, kstB, h8, h9])); (case P3 => (
            refine ⟨by rw [List.append_nil]; exact hD, ?_, hpw⟩
            dsimp only
            rw [crsOf_no hsd (by assumption)]; exact hC)))
  · intro c tl u h tk hP hord F' N'
    obtain ⟨cv, cnn, crs⟩ := c
    obtain ⟨hD, hC, hpw⟩ := hP
    dsimp only at hD hC hpw F' N' hord
    have hlen : vs.length = sds.length := hvs.length
    rw [hlen, List.take_length] at hC
    simp only [List.cons_append, List.nil_append] at N'
    simp only [List.forall_mem_cons, List.forall_mem_append, List.cons_append, List.nil_append] at hord
    obtain ⟨ho1, ho2⟩ := hord
    k_steps
    (refine' hret (_) ((lF, listOf cv.toArray cnn) :: tl) _ _ ?fr4 (nwX ?nw4 ?sub4) ?ord4 ?out4; (case fr4 => k_asm); (case nw4 => k_asm); (case sub4 => ((try dsimp only); (repeat' (first | (refine List.forall_mem_append.mpr ⟨?_, ?_⟩) | (refine List.forall_mem_cons.mpr ⟨?_, ?_⟩) | exact List.forall_mem_nil _ | exact (fun p9 hp9 => by simp only [List.mem_append, List.mem_cons, hp9, true_or, or_true]) | k_mem)))); (case ord4 => ((try dsimp only); (try simp only [List.forall_mem_cons, List.forall_mem_append, List.cons_append, List.nil_append, List.not_mem_nil, false_implies, implies_true, and_true, forall_and, imp_and]); (repeat' (apply And.intro)); all_goals (first | assumption | (refine ltN ?_; omega) | exact (fun _ _ => List.forall_mem_nil _)))); (case out4 => (exact ⟨lF, cv, cnn, crs, rfl, List.mem_append_right _ (.head _), DatAll.mono (fun p hp => by simp only [List.mem_append, List.mem_cons] at hp ⊢; grind) hD, hC, hpw⟩)))
end
section
noncomputable def wTerm (x : Int) (cr : Cr) : Int := if cr.1 ≤ x * cr.2.1 then cr.2.2 else 0
noncomputable def wSum (x : Int) (l : List Cr) : Int := (l.map (wTerm x)).sum
theorem sum_perm {l r : List Int} (h : l.Perm r) : l.sum = r.sum := by
  induction h with
  | nil => rfl
  | cons a _ ih => simp [ih]
  | swap a b l => simp; omega
  | trans _ _ ih1 ih2 => exact ih1.trans ih2
theorem wSum_perm {x : Int} {l r : List Cr} (h : l.Perm r) : wSum x l = wSum x r := by
  unfold wSum
  exact sum_perm (h.map _)
theorem wSum_succ {x : Int} {l : List Cr} {i : Nat} {cr : Cr} (h : l[i]? = some cr) : wSum x (l.take (i + 1)) = wSum x (l.take i) + wTerm x cr := by
  unfold wSum
  rw [List.take_add_one, h]
  simp
set_option maxHeartbeats 4000000 in
theorem tel_winding_at {l : Addr} {vs : List Value} {nn : Nat} {sds : List SD} {x y : Int} {t0 u0 : Nat} (hok : ∀ sd ∈ sds, SDok' sd) (hy : -100 ≤ y ∧ y ≤ 100) (h64 : sds.length < 64) :
    Tel 75 64 512 [.ref l, .int x u0, .int y t0] (fun news => (l, listOf vs.toArray nn) ∈ news ∧ All2 (SideIn news) vs sds) (fun news r => ∃ k, r = .int (wSum x (crsOf sds y)) k) := by
  k_with_none
  k_with "call builtin:len" => (k_here; (with_reducible show wpAny _ _ (call (Value.builtin "len") [Value.ref _]) _ _ _); k_dflt (refine' len_led (by k_asm) (by k_mem) (by ((try simp only [List.length_append, List.length_cons, List.length_nil]); omega)) ?_; k_whole))
  k_with "subscriptTail" => (k_here; (with_reducible show wpAny _ _ (subscriptTail _ _ (Value.ref _) (Value.int _ _)) _ _ _); k_dflt (refine' item_led (by k_asm) (by k_mem) (by omega) (by omega) (by with_reducible assumption) ?_ (by with_unfolding_all rfl); k_whole))
  k_with "call ref" => (k_here; k_dflt (refine' Tel.useR (by k_asm) (by k_asm) (by k_asm) (by k_asm) (by k_asm) (by first | exact rfl | assumption) (by (refine' And.intro (by k_mem) (by first | assumption | (refine' All2.mono ?_ (by assumption); (exact fun _ _ h9kw => h9kw.mono (fun p9 hp9kw => by simp only [List.mem_append, List.mem_cons, hp9kw, true_or, or_true])))))) (tel_crossings (by assumption) (by assumption) (by assumption)) (by ktr_room) (by ktr_units) ?_); intro r9kw tl9kw h9kw tk9kw F9kw N9kw hl9kw ho9kw; (try simp only [List.cons_append, List.nil_append, List.append_assoc] at N9kw ho9kw); (try simp only [List.forall_mem_cons, List.forall_mem_append, List.cons_append, List.nil_append, List.not_mem_nil, false_implies, implies_true, and_true] at hl9kw); (repeat' (obtain ⟨_, hl9kw⟩ := hl9kw)); obtain ⟨D9kw, out9kw, e9kw, crs9kw, er9kw, hm9kw, hd9kw, hp9kw, hw9kw⟩ := ho9kw; subst er9kw; (try dsimp only); (try k_fold))
  k_with "exec For Tuple Call cons nil" => (k_here; k_dflt (refine' For_at ?_ (by intro _; with_unfolding_all rfl)))
  intro prog w p loose mean mg mb dp un gd cn cs a ccd cl outer A₀ base h₀ L m news s Q E B F X N T hk hP hd hu hret
  obtain ⟨hl, hvs⟩ := hP
  (refine wpAny_call ?_; k_dflt ktr_enter)
  k_steps
  (have r9kw := trivial; have tl9kw := trivial; have h9kw := trivial; have tk9kw := trivial; have F9kw := trivial; have N9kw := trivial; have hl9kw := trivial; have ho9kw := trivial; have D9kw := trivial; have out9kw := trivial; have e9kw := trivial; have crs9kw := trivial; have er9kw := trivial; have hm9kw := trivial; have hd9kw := trivial; have hp9kw := trivial; have hw9kw := trivial; rename_i g1 L1 hh0 FG1 B1 X1 T1 hh1 F0 N0 tA hA tkA F1 N1 hlA D1 outs e1 crs hm hd1 hp hw; clear r9kw tl9kw h9kw tk9kw F9kw N9kw hl9kw ho9kw D9kw out9kw e9kw crs9kw er9kw hm9kw hd9kw hp9kw hw9kw)
  have hden : ∀ cr ∈ crs, 0 < cr.2.1 ∧ cr.2.1 < 1000000 := fun cr hc => crsOf_den (sds := sds) (y := y) hok cr (hp.mem_iff.mp hc)
  refine iter_list (σ := Int × Nat) (fun _ => []) (news ++ tA) (fun c => [("winding", .int c.1 c.2)]) ["place", "way"] []
    (fun i S c => c.1 = wSum x (crs.take i)) (0, _) rfl hm (fun v hv => by
      obtain ⟨i, hi, e⟩ := List.getElem_of_mem hv
      obtain ⟨cr, _, hI⟩ := dat_of hd1 (i := i) (v := v) (by rw [List.getElem?_eq_getElem hi, e])
      obtain ⟨_, _, _, _, _, _, _, rfl, _⟩ := cr_inv hI
      exact GoOk.tuple) F1 N1 (fun p hp => hp) (fun _ => rfl) (fun p hp a ha => nomatch ha) (by ((try dsimp only); (repeat' (first | exact List.forall_mem_nil _ | (refine List.forall_mem_cons.mpr ⟨?_, ?_⟩) | rfl | (with_unfolding_all rfl))))) rfl (by passes_own) ?_ ?_
  · intro i v c S u h tk own hv hP hcst hoff F' N' QL hQL
    obtain ⟨wd, tw⟩ := c
    dsimp only at hP F' N'
    obtain ⟨cr, hcr, hI⟩ := dat_of hd1 hv
    have hdj := hden cr (List.mem_of_getElem? hcr)
    obtain ⟨a2, b2, n2, k2, t4, t5, t6, rfl, m3, m4⟩ := cr_inv hI
    replace m3 := hcst _ m3
    replace m4 := hcst _ m4
    simp only [List.cons_append, List.nil_append] at N'
    k_steps
    · (refine' hQL _ _ (lpost_next (wd + cr.2.2, _) ([]) ?fr1 ?nw1 ?sub1 ?own1 ?ord1 ?ps1 ?rest1 ?P1); (case fr1 => k_asm); (case nw1 => k_asm); (case sub1 => ((try dsimp only); (repeat' (first | (refine List.forall_mem_append.mpr ⟨?_, ?_⟩) | (refine List.forall_mem_cons.mpr ⟨?_, ?_⟩) | exact List.forall_mem_nil _ | exact (fun p9 hp9 => by simp only [List.mem_append, List.mem_cons, hp9, true_or, or_true]) | k_mem)))); (case own1 => ((try dsimp only); (repeat' (first | (refine List.forall_mem_append.mpr ⟨?_, ?_⟩) | (refine List.forall_mem_cons.mpr ⟨?_, ?_⟩) | exact List.forall_mem_nil _ | exact (fun p9 hp9 => by simp only [List.mem_append, List.mem_cons, hp9, true_or, or_true]) | k_mem)))); (case ord1 => ((try dsimp only); (try simp only [List.forall_mem_cons, List.forall_mem_append, List.cons_append, List.nil_append, List.not_mem_nil, false_implies, implies_true, and_true, forall_and, imp_and]); (repeat' (apply And.intro)); all_goals (first | assumption | (refine ltN ?_; omega) | exact (fun _ _ => List.forall_mem_nil _)))); (case ps1 => ((try dsimp only); (repeat' (first | exact List.forall_mem_nil _ | (refine List.forall_mem_cons.mpr ⟨?_, ?_⟩) | rfl | (with_unfolding_all rfl))))); (case rest1 => (intro z9 h8 h9; (try simp only [List.forall_mem_cons, List.not_mem_nil, false_implies, implies_true, and_true, ne_eq] at h8); simp only [List.contains_cons, List.contains_nil, Bool.or_false, Bool.or_eq_false_iff, beq_eq_false_iff_ne, ne_eq] at h9; simp [frm, kstB, h8, h9])); (case P1 => (show wd + cr.2.2 = wSum x (crs.take (i + 1)); rw [wSum_succ hcr, ← hP, wTerm, if_pos (by assumption)])))
    · (refine' hQL _ _ (lpost_next (wd, tw) ([]) ?fr2 ?nw2 ?sub2 ?own2 ?ord2 ?ps2 ?rest2 ?P2); (case fr2 => k_asm); (case nw2 => k_asm); (case sub2 => ((try dsimp only); (repeat' (first | (refine List.forall_mem_append.mpr ⟨?_, ?_⟩) | (refine List.forall_mem_cons.mpr ⟨?_, ?_⟩) | exact List.forall_mem_nil _ | exact (fun p9 hp9 => by simp only [List.mem_append, List.mem_cons, hp9, true_or, or_true]) | k_mem)))); (case own2 => ((try dsimp only); (repeat' (first | (refine List.forall_mem_append.mpr ⟨?_, ?_⟩) | (refine List.forall_mem_cons.mpr ⟨?_, ?_⟩) | exact List.forall_mem_nil _ | exact (fun p9 hp9 => by simp only [List.mem_append, List.mem_cons, hp9, true_or, or_true]) | k_mem)))); (case ord2 => ((try dsimp only); (try simp only [List.forall_mem_cons, List.forall_mem_append, List.cons_append, List.nil_append, List.not_mem_nil, false_implies, implies_true, and_true, forall_and, imp_and]); (repeat' (apply And.intro)); all_goals (first | assumption | (refine ltN ?_; omega) | exact (fun _ _ => List.forall_mem_nil _)))); (case ps2 => ((try dsimp only); (repeat' (first | exact List.forall_mem_nil _ | (refine List.forall_mem_cons.mpr ⟨?_, ?_⟩) | rfl | (with_unfolding_all rfl))))); (case rest2 => (intro z9 h8 h9; (try simp only [List.forall_mem_cons, List.not_mem_nil, false_implies, implies_true, and_true, ne_eq] at h8); simp only [List.contains_cons, List.contains_nil, Bool.or_false, Bool.or_eq_false_iff, beq_eq_false_iff_ne, ne_eq] at h9; simp [frm, kstB, h8, h9])); (case P2 => (show wd = wSum x (crs.take (i + 1)); rw [wSum_succ hcr, ← hP, wTerm, if_neg (by first | assumption | omega), Int.add_zero])))
  · intro c tl u h tk hP hord F' N'
    obtain ⟨wd, tw⟩ := c
    dsimp only at hP F' N'
    have hlen : outs.length = crs.length := by rw [DatAll.length hd1, List.length_map]
    rw [hlen, List.take_length, wSum_perm hp] at hP
    subst hP
    k_steps
    (refine' hret (_) ([]) _ _ ?fr3 (nwX ?nw3 ?sub3) ?ord3 ?out3; (case fr3 => k_asm); (case nw3 => k_asm); (case sub3 => ((try dsimp only); (repeat' (first | (refine List.forall_mem_append.mpr ⟨?_, ?_⟩) | (refine List.forall_mem_cons.mpr ⟨?_, ?_⟩) | exact List.forall_mem_nil _ | exact (fun p9 hp9 => by simp only [List.mem_append, List.mem_cons, hp9, true_or, or_true]) | k_mem)))); (case ord3 => ((try dsimp only); (try simp only [List.forall_mem_cons, List.forall_mem_append, List.cons_append, List.nil_append, List.not_mem_nil, false_implies, implies_true, and_true, forall_and, imp_and]); (repeat' (apply And.intro)); all_goals (first | assumption | (refine ltN ?_; omega) | exact (fun _ _ => List.forall_mem_nil _)))); (case out3 => (exact ⟨_, rfl⟩)))
end
section
section
variable {prog : Program} {w : World} {A : Around} {s : Shared} {env : Env} {h₀ : Heap} {E : Value → Shared → Prop} {Q : Flow → Shared → Prop} {body : List Stmt}
theorem zap3 {n l1 l2 : Nat} (h1 : l1 < n) (h2 : l2 < n) : ZipApart (n + 4) (n + 2) (n + 3) n (n + 1) l1 l2 := by
  constructor <;> show ¬ (@Eq Nat _ _) <;> omega
theorem Steps.widen {target : PySem.Expr} {I a : Addr} {fp wr : List Addr} {n : Nat} {It : Nat → Value → Heap → Prop} {St : Nat → Heap → Prop} (W : Steps prog w A target I fp wr n It St) (ha : a ∈ fp) : Steps prog w A target I fp (a :: wr) n It St where
  sub := fun b hb => by
    rcases List.mem_cons.mp hb with rfl | hb
    · exact ha
    · exact W.sub b hb
  frame := W.frame
  item := fun i s Q E hi st hQ => W.item i s Q E hi st fun v h' tk hP hst hk => hQ v h' tk hP hst fun b o hb e => hk b o (fun h => hb (.tail _ h)) e
  done := fun s Q E st hQ => W.done s Q E st fun h' tk hk => hQ h' tk fun b o hb e => hk b o (fun h => hb (.tail _ h)) e
/-- for a, b in zip(l1, l2): a loop that keeps nothing -/
theorem iter_zip {l1 l2 : Addr} {xs ys : List Value} {n1 n2 : Nat} {m₀ : Str → Option Value} {all : List (Addr × Obj)} {elts : List PySem.Expr} {k : Nat} {pos : Pos} (cst : List (Addr × Obj)) (stored : List Str)
    (hh : A.handled = none) (hl1 : (l1, listOf xs.toArray n1) ∈ cst) (hl2 : (l2, listOf ys.toArray n2) ∈ cst) (F : Fr h₀ env.locals s.heap m₀) (N : News h₀ env.locals s.heap all) (hn : ∀ p ∈ cst, p ∈ all) (hE : PassesOwn (model prog w) A env E)
    (turn : ∀ (i : Nat) v v2 S u h tk own T, xs[i]? = some v → ys[i]? = some v2 → IsTup h T #[v, v2] → (∀ p ∈ cst, p ∈ S) →
      Fr h₀ env.locals h (frm (fun _ : Unit => []) stored m₀ u ()) → News h₀ env.locals h (S ++ own) →
      ∀ QL : Flow → Shared → Prop, (∀ f s', LPost h₀ env.locals (fun _ : Unit => []) (fun _ => []) stored m₀ (fun _ _ => True) S own () { s with heap := h, toks := tk } Q f s' → QL f s') → wpAny (model prog w) A (assign (.Tuple elts k pos) env (.ref T)) (fun _ s₃ => wpAny (model prog w) A (execs body env) QL E s₃) E { s with heap := h, toks := tk })
    (done : ∀ tl u h tk, Fr h₀ env.locals h (frm (fun _ : Unit => []) stored m₀ u ()) → News h₀ env.locals h (cst ++ tl) → Q .next { s with heap := h, toks := tk }) :
    wpAny (model prog w) A (call (.type "zip") [.ref l1, .ref l2]) (IterAt prog w A env (.Tuple elts k pos) body Q E) E s := by
  have N₁ : News h₀ env.locals s.heap cst := nwX N hn
  have ho1 : s.heap.get? l1 = some (listOf xs.toArray n1) := (N₁ _ hl1).1
  have ho2 : s.heap.get? l2 = some (listOf ys.toArray n2) := (N₁ _ hl2).1
  have hlt1 : l1 < s.heap.objs.size := Heap.lt_size ho1
  have hlt2 : l2 < s.heap.objs.size := Heap.lt_size ho2
  have hLlt : env.locals < s.heap.objs.size := F.ns.lt
  have fresh₀ : ∀ a, s.heap.objs.size ≤ a → h₀.get? a = none := fun a ha => Heap.get?_none_of_le (Nat.le_trans (Nat.le_trans F.above (Nat.le_of_lt hLlt)) ha)
  have hls1 : s.heap.IsList l1 xs.toArray := ⟨_, ho1, rfl, n1, rfl⟩
  have hls2 : s.heap.IsList l2 ys.toArray := ⟨_, ho2, rfl, n2, rfl⟩
  refine call_zip_2 hls1 hls2 fun h' hz hTI hTO hi1 hi2 hsz hk => ?_
  unfold IterAt
  refine wpAny_pyIter_zip hz ?_
  unfold ForAt
  have D := zap3 hlt1 hlt2
  have W := Steps.ofU (elts := elts) (k := k) (pos := pos) (WalksT.zip2 (prog := prog) (w := w) hh _ _ _ _ _ _ _ D xs.toArray ys.toArray).toU
  replace W := W.widen (a := s.heap.objs.size + 2) (by simp)
  have ge : ∀ j : Nat, env.locals ≠ s.heap.objs.size + j := fun j e => absurd hLlt (by rw [e]; exact Nat.not_lt.mpr (Nat.le_add_right _ _))
  refine led_loop (s := { s with heap := h' }) (fun _ : Unit => []) cst (fun _ => []) stored [] (fun _ _ _ => True) () W ?_ ⟨hz, hTI, ⟨_, _, hTO⟩, hi1, hi2, hls1.at fun o e => hk _ o e, hls2.at fun o e => hk _ o e⟩ (F.keeps hk) ?_ (fun _ => rfl) (fun _ _ _ h => nomatch h) ?_ ?_ ?_ (fun _ h => nomatch h) trivial ?_ ?_
  · intro hm
    have hm' : env.locals = s.heap.objs.size + 4 ∨ env.locals = s.heap.objs.size + 2 ∨ env.locals = s.heap.objs.size + 3 ∨ env.locals = s.heap.objs.size ∨ env.locals = s.heap.objs.size + 1 ∨ env.locals = l1 ∨ env.locals = l2 := by simpa using hm
    rcases hm' with e | e | e | e | e | e | e
    · exact ge 4 e
    · exact ge 2 e
    · exact ge 3 e
    · exact ge 0 e
    · exact ge 1 e
    · exact (N₁ _ hl1).2.1 e.symm
    · exact (N₁ _ hl2).2.1 e.symm
  · intro p hp
    exact ⟨hk _ _ (N₁ p hp).1, (N₁ p hp).2⟩
  · intro b hb
    have hb' : b = s.heap.objs.size + 2 ∨ b = s.heap.objs.size + 4 ∨ b = s.heap.objs.size + 3 ∨ b = s.heap.objs.size ∨ b = s.heap.objs.size + 1 := by simpa using hb
    refine ⟨?_, fun q hq => ?_⟩
    · rcases hb' with rfl | rfl | rfl | rfl | rfl
      · exact fresh₀ _ (Nat.le_add_right _ _)
      · exact fresh₀ _ (Nat.le_add_right _ _)
      · exact fresh₀ _ (Nat.le_add_right _ _)
      · exact fresh₀ _ (Nat.le_refl _)
      · exact fresh₀ _ (Nat.le_add_right _ _)
    · have hq' : q.1 < s.heap.objs.size := Heap.lt_size (N₁ q (by simpa using hq)).1
      have hle : s.heap.objs.size ≤ b := by
        rcases hb' with rfl | rfl | rfl | rfl | rfl
        · exact Nat.le_add_right _ _
        · exact Nat.le_add_right _ _
        · exact Nat.le_add_right _ _
        · exact Nat.le_refl _
        · exact Nat.le_add_right _ _
      exact Nat.lt_of_lt_of_le hq' hle
  · intro b hb hbw
    have hb' : b = s.heap.objs.size + 4 ∨ b = s.heap.objs.size + 2 ∨ b = s.heap.objs.size + 3 ∨ b = s.heap.objs.size ∨ b = s.heap.objs.size + 1 ∨ b = l1 ∨ b = l2 := by simpa using hb
    rcases hb' with rfl | rfl | rfl | rfl | rfl | rfl | rfl
    · exact absurd (by simp) hbw
    · exact absurd (by simp) hbw
    · exact absurd (by simp) hbw
    · exact absurd (by simp) hbw
    · exact absurd (by simp) hbw
    · exact .inl ⟨_, hl1⟩
    · exact .inl ⟨_, hl2⟩
  · rintro i h ⟨hz, hTI, ⟨a, b9, hTO⟩, ⟨o1, ho1, _⟩, ⟨o2, ho2, _⟩, _⟩ b hb
    have hb' : b = s.heap.objs.size + 2 ∨ b = s.heap.objs.size + 4 ∨ b = s.heap.objs.size + 3 ∨ b = s.heap.objs.size ∨ b = s.heap.objs.size + 1 := by simpa using hb
    rcases hb' with rfl | rfl | rfl | rfl | rfl
    · exact ⟨_, hTI⟩
    · exact ⟨_, hz⟩
    · exact ⟨_, hTO⟩
    · exact ⟨_, ho1⟩
    · exact ⟨_, ho2⟩
  · rintro i v c S u h tk own hi ⟨T, vals, rfl, ⟨x, y, hx, hy, rfl⟩, hT⟩ hP' hcst hoff F' N'
    refine wpAny_mono (turn i x y S u h tk own T (by simpa using hx) (by simpa using hy) hT hcst F' (by simpa using N') _ (fun _ _ h9 => h9)) (fun _ s₃ h₃ => wpAny_mono h₃ (fun f s₄ h₄ => h₄) hE) hE
  · intro c tl u h tk _ _ F' N'
    exact done tl u h tk F' (by simpa using N')
end
end
section
theorem insideL_eq (nz : Bool) (w : Int) : insideL nz w = insideB nz w := by
  unfold insideL insideB
  cases nz
  · simp only [Bool.false_eq_true, if_false]
    have h1 := Int.fmod_nonneg_of_pos w (show (0 : Int) < 2 by decide)
    have h2 := Int.fmod_lt_of_pos w (show (0 : Int) < 2 by decide)
    exact decide_eq_decide.mpr (by omega)
  · rfl
/-- the columns lo .. x - 1 -/
noncomputable def R (nz : Bool) (g : Int → Int) (lo x : Int) : List (Int × Int) := lsRun nz g lo (x - lo).toNat
theorem R_succ {nz : Bool} {g : Int → Int} {lo x : Int} (h : lo ≤ x) : R nz g lo (x + 1) = lsStep nz (g x) x (R nz g lo x) := by
  unfold R
  have e : (x + 1 - lo).toNat = (x - lo).toNat + 1 := by omega
  rw [e]
  show lsStep nz (g (lo + ((x - lo).toNat : Int))) (lo + ((x - lo).toNat : Int)) _ = _
  rw [show lo + ((x - lo).toNat : Int) = x by omega]
theorem R_out {nz : Bool} {g : Int → Int} {lo x : Int} (h : lo ≤ x) : ∀ k : Nat, (∀ c, x ≤ c → c < x + k → insideL nz (g c) = false) → R nz g lo (x + k) = R nz g lo x
  | 0, _ => by simp
  | k + 1, hk => by
    have ih := R_out h k fun c h1 h2 => hk c h1 (by omega)
    rw [show x + ((k + 1 : Nat) : Int) = x + (k : Int) + 1 by omega, R_succ (by omega), lsStep_out (hk _ (by omega) (by omega)), ih]
theorem R_in {nz : Bool} {g : Int → Int} {lo x s : Int} {f : List (Int × Int)} (h : lo ≤ x) (hx : R nz g lo x = f ++ [(s, x)]) : ∀ k : Nat, (∀ c, x ≤ c → c < x + k → insideL nz (g c) = true) → R nz g lo (x + k) = f ++ [(s, x + k)]
  | 0, _ => by simpa using hx
  | k + 1, hk => by
    have ih := R_in h hx k fun c h1 h2 => hk c h1 (by omega)
    rw [show x + ((k + 1 : Nat) : Int) = x + (k : Int) + 1 by omega, R_succ (by omega), ih, lsStep_more (hk _ (by omega) (by omega)) rfl]
theorem R_start {nz : Bool} {g : Int → Int} {lo x : Int} {f : List (Int × Int)} (h : lo ≤ x) (hx : R nz g lo x = f) (hl : ∀ a e, f.getLast? = some (a, e) → e < x) (hi : insideL nz (g x) = true) : R nz g lo (x + 1) = f ++ [(x, x + 1)] := by
  rw [R_succ h, hx]
  rcases List.eq_nil_or_concat f with rfl | ⟨f0, ⟨a, e⟩, rfl⟩
  · exact lsStep_nil hi
  · have := hl a e (by simp)
    rw [List.concat_eq_append, lsStep_new hi (by omega)]
noncomputable def cumW (l : List (Int × Int)) (x : Int) : Int := (l.map fun q => if q.1 ≤ x then q.2 else 0).sum
theorem cumW_cons {q : Int × Int} {l : List (Int × Int)} {x : Int} : cumW (q :: l) x = (if q.1 ≤ x then q.2 else 0) + cumW l x := by
  simp [cumW]
theorem cumW_low {l : List (Int × Int)} {x : Int} (h : ∀ q ∈ l, x < q.1) : cumW l x = 0 := by
  induction l with
  | nil => rfl
  | cons q l ih =>
    rw [cumW_cons, ih fun q hq => h q (.tail _ hq)]
    have := h q (.head _)
    rw [if_neg (by omega)]; rfl
noncomputable def openTo (f : List (Int × Int)) (b : Option Int) (x : Int) : List (Int × Int) := match b with | none => f | some s => f ++ [(s, x)]
theorem spRec_runs {nz : Bool} {g : Int → Int} {lo hi : Int} : ∀ (l : List (Int × Int)) (f : List (Int × Int)) (wd : Int) (b : Option Int) (col way : Int),
    ((col, way) :: l).Pairwise (fun p q => p.1 ≤ q.1) → (∀ q ∈ (col, way) :: l, lo ≤ q.1 ∧ q.1 < hi) → (∀ x, col ≤ x → x < hi → g x = wd + cumW ((col, way) :: l) x) →
    wd + (((col, way) :: l).map (·.2)).sum = 0 → (∀ s, b = some s → s < col) → (∀ a e, f.getLast? = some (a, e) → e < col) → R nz g lo col = openTo f b col →
    (spRec nz ((col, way) :: l) (f, wd, b)).1 = R nz g lo hi
  | [], f, wd, b, col, way, hp, hb, hg, ht, hs, he, hR => by
    have hc := hb _ (.head _)
    dsimp only at hc
    have hw : wd + way = 0 := by simpa using ht
    have h0 : insideB nz (wd + way) = false := by rw [hw]; cases nz <;> rfl
    have hout : R nz g lo hi = R nz g lo col := by
      have := R_out (nz := nz) (g := g) (lo := lo) (x := col) hc.1 (hi - col).toNat fun c h1 h2 => by
        rw [hg c h1 (by omega), cumW_cons, if_pos h1, insideL_eq]
        have : cumW [] c = 0 := rfl
        rw [this, Int.add_zero]; exact h0
      rw [show col + ((hi - col).toNat : Int) = hi by omega] at this
      exact this
    cases b with
    | none =>
      rw [spRec_out (by simp) h0]
      show f = _
      rw [hout, hR]; rfl
    | some s =>
      rw [spRec_end (by simp) h0]
      show f ++ [(s, col)] = _
      rw [hout, hR]; rfl
  | (col2, way2) :: l, f, wd, b, col, way, hp, hb, hg, ht, hs, he, hR => by
    have hc := hb _ (.head _)
    have hc2 := hb _ (.tail _ (.head _))
    dsimp only at hc hc2
    have hle : col ≤ col2 := (List.pairwise_cons.mp hp).1 _ (.head _)
    have hp2 := (List.pairwise_cons.mp hp).2
    by_cases hsame : col2 = col
    · subst hsame
      rw [spRec_same (by simp)]
      refine spRec_runs l f (wd + way) b col2 way2 hp2 (fun q hq => hb q (.tail _ hq)) (fun x h1 h2 => ?_) ?_ hs he hR
      · rw [hg x h1 h2, cumW_cons, if_pos h1]; omega
      · rw [← ht]; simp only [List.map_cons, List.sum_cons]; omega
    · have hne : ¬ ((col2, way2) :: l).head?.map (·.1) = some col := by simpa using hsame
      have hlt : col < col2 := by omega
      have hgc : ∀ c, col ≤ c → c < col2 → g c = wd + way := fun c h1 h2 => by
        rw [hg c h1 (by omega), cumW_cons, if_pos h1, cumW_low fun q hq => ?_]
        · omega
        · rcases List.mem_cons.mp hq with rfl | hq
          · exact h2
          · have := (List.pairwise_cons.mp hp2).1 q hq
            dsimp only at this
            omega
      have hg2 : ∀ x, col2 ≤ x → x < hi → g x = (wd + way) + cumW ((col2, way2) :: l) x := fun x h1 h2 => by
        rw [hg x (by omega) h2, cumW_cons, if_pos (show (col, way).1 ≤ x by dsimp only; omega)]; omega
      have ht2 : (wd + way) + (((col2, way2) :: l).map (·.2)).sum = 0 := by
        rw [← ht]; simp only [List.map_cons, List.sum_cons]; omega
      have e2 : col + ((col2 - col).toNat : Int) = col2 := by omega
      cases hin : insideB nz (wd + way) with
      | false =>
        have hout : R nz g lo col2 = R nz g lo col := by
          have := R_out (nz := nz) (g := g) (lo := lo) (x := col) hc.1 (col2 - col).toNat fun c h1 h2 => by
            rw [hgc c h1 (by omega), insideL_eq]; exact hin
          rw [e2] at this
          exact this
        cases b with
        | none =>
          rw [spRec_out hne hin]
          refine spRec_runs l f (wd + way) none col2 way2 hp2 (fun q hq => hb q (.tail _ hq)) hg2 ht2 (fun s h => by cases h) (fun a e h => by have := he a e h; omega) ?_
          rw [hout, hR]; rfl
        | some s =>
          rw [spRec_end hne hin]
          refine spRec_runs l (f ++ [(s, col)]) (wd + way) none col2 way2 hp2 (fun q hq => hb q (.tail _ hq)) hg2 ht2 (fun s h => by cases h) (fun a e h => ?_) ?_
          · simp at h; omega
          · rw [hout, hR]; rfl
      | true =>
        have hinc : ∀ c, col ≤ c → c < col2 → insideL nz (g c) = true := fun c h1 h2 => by rw [hgc c h1 h2, insideL_eq]; exact hin
        rw [spRec_in hne hin]
        refine spRec_runs l f (wd + way) (some (b.getD col)) col2 way2 hp2 (fun q hq => hb q (.tail _ hq)) hg2 ht2 (fun s h => ?_) (fun a e h => by have := he a e h; omega) ?_
        · cases b with
          | none => simp at h; omega
          | some s' => simp at h; have := hs s' rfl; omega
        · cases b with
          | none =>
            have h1 := R_start hc.1 hR he (hinc col (Int.le_refl _) hlt)
            have h2 := R_in (s := col) (by omega) h1 (col2 - (col + 1)).toNat fun c h3 h4 => hinc c (by omega) (by omega)
            rw [show col + 1 + ((col2 - (col + 1)).toNat : Int) = col2 by omega] at h2
            exact h2
          | some s =>
            have h2 := R_in (s := s) hc.1 hR (col2 - col).toNat fun c h3 h4 => hinc c (by omega) (by omega)
            rw [e2] at h2
            exact h2
end
section
theorem sidesOf_eq (cs : List CoT) : sidesOf cs = (pairsOf cs).filterMap (fun p => sideOf p.1 p.2) := by
  induction cs with
  | nil => rfl
  | cons c cs ih =>
    simp only [sidesOf, pairsOf, List.flatMap_cons, List.filterMap_append] at ih ⊢
    rw [ih]; rfl
theorem cyc_mem {sp : List (Int × Int)} {p : Pr} (h : p ∈ cyc sp) : p.1 ∈ sp ∧ p.2 ∈ sp := by
  cases sp with
  | nil => simp [cyc] at h
  | cons c cs =>
    unfold cyc at h
    dsimp only at h
    rcases List.mem_append.mp h with h | h
    · have := List.of_mem_zip (show (p.1, p.2) ∈ _ from h)
      exact ⟨this.1, List.mem_of_mem_drop this.2⟩
    · rw [List.mem_singleton.mp h]
      refine ⟨?_, .head _⟩
      dsimp only
      cases hl : (c :: cs).getLast? with
      | none => simp at hl
      | some a => exact List.mem_of_getLast? hl
/-- a pair of spots of the law's range -/
noncomputable def PrIn (p : Pr) : Prop := -4 ≤ p.1.1 ∧ p.1.1 ≤ 16 ∧ -2 ≤ p.1.2 ∧ p.1.2 ≤ 14 ∧ -4 ≤ p.2.1 ∧ p.2.1 ≤ 16 ∧ -2 ≤ p.2.2 ∧ p.2.2 ≤ 14
theorem pairsOf_in {cs : List CoT} (h : ∀ c ∈ cs, CtOk c) : ∀ p ∈ pairsOf cs, PrIn p := by
  intro p hp
  obtain ⟨c, hc, hp⟩ := List.mem_flatMap.mp hp
  obtain ⟨h1, h2⟩ := cyc_mem hp
  obtain ⟨_, _, hok⟩ := h c hc
  have a := hok _ h1
  have b := hok _ h2
  exact ⟨a.1, a.2.1, a.2.2.1, a.2.2.2, b.1, b.2.1, b.2.2.1, b.2.2.2⟩
noncomputable def SdIn (sd : SD) : Prop := -4 ≤ sd.x1 ∧ sd.x1 ≤ 16 ∧ -4 ≤ sd.x2 ∧ sd.x2 ≤ 16 ∧ -2 ≤ sd.y1 ∧ sd.y1 < sd.y2 ∧ sd.y2 ≤ 14 ∧ -1 ≤ sd.way ∧ sd.way ≤ 1
theorem sideOf_in {p : Pr} {sd : SD} (h : PrIn p) (hs : sideOf p.1 p.2 = some sd) : SdIn sd := by
  unfold PrIn at h
  unfold sideOf at hs
  unfold SdIn
  split at hs
  · cases hs
  · split at hs <;> (cases hs; dsimp only; omega)
theorem sidesOf_in {cs : List CoT} (h : ∀ c ∈ cs, CtOk c) : ∀ sd ∈ sidesOf cs, SdIn sd := by
  intro sd hsd
  rw [sidesOf_eq] at hsd
  obtain ⟨p, hp, hs⟩ := List.mem_filterMap.mp hsd
  exact sideOf_in (pairsOf_in h p hp) hs
/-- what a side brings at a sample -/
noncomputable def sdTerm (X y : Int) (sd : SD) : Int := if sd.y1 ≤ y ∧ y < sd.y2 then wTerm X (crOf sd y) else 0
theorem wTerm_pos {x : Int} {cr : Cr} (h : cr.1 ≤ x * cr.2.1) : wTerm x cr = cr.2.2 := if_pos h
theorem wTerm_neg {x : Int} {cr : Cr} (h : ¬ cr.1 ≤ x * cr.2.1) : wTerm x cr = 0 := if_neg h
theorem sdTerm_pos {X y : Int} {sd : SD} (h : sd.y1 ≤ y ∧ y < sd.y2) : sdTerm X y sd = wTerm X (crOf sd y) := if_pos h
theorem sdTerm_neg {X y : Int} {sd : SD} (h : ¬ (sd.y1 ≤ y ∧ y < sd.y2)) : sdTerm X y sd = 0 := if_neg h
theorem wSum_crs (X y : Int) : ∀ sds : List SD, wSum X (crsOf sds y) = (sds.map (sdTerm X y)).sum
  | [] => rfl
  | sd :: sds => by
    have ih := wSum_crs X y sds
    by_cases h : sd.y1 ≤ y ∧ y < sd.y2
    · have e : crsOf (sd :: sds) y = crOf sd y :: crsOf sds y := by simp [crsOf, h]
      rw [e]
      show (List.map (wTerm X) (_ :: _)).sum = _
      rw [List.map_cons, List.sum_cons, List.map_cons, List.sum_cons, ← ih, sdTerm, if_pos h]; rfl
    · have e : crsOf (sd :: sds) y = crsOf sds y := by simp [crsOf, h]
      rw [e, ih, List.map_cons, List.sum_cons, sdTerm, if_neg h, Int.zero_add]
theorem pr_term (X y : Int) (p : Pr) : lwTerm X y p = (match sideOf p.1 p.2 with | none => 0 | some sd => sdTerm X y sd) := by
  unfold lwTerm sideOf
  by_cases h1 : p.1.2 = p.2.2
  · rw [if_neg (by omega), if_neg (by omega), if_pos h1]
  · by_cases h2 : p.1.2 < p.2.2
    · rw [if_pos h2, if_neg h1, if_pos h2]
      show _ = sdTerm X y ⟨p.1.1, p.1.2, p.2.1, p.2.2, 1⟩
      have e : (p.2.1 - p.1.1) * (y - p.1.2) ≤ (X - p.1.1) * (p.2.2 - p.1.2) ↔ p.1.1 * (p.2.2 - p.1.2) + (p.2.1 - p.1.1) * (y - p.1.2) ≤ X * (p.2.2 - p.1.2) := by
        rw [Int.sub_mul X]; omega
      by_cases h3 : p.1.2 ≤ y ∧ y < p.2.2
      · rw [sdTerm_pos h3]
        by_cases h4 : (p.2.1 - p.1.1) * (y - p.1.2) ≤ (X - p.1.1) * (p.2.2 - p.1.2)
        · rw [if_pos ⟨h3.1, h3.2, h4⟩, wTerm_pos (e.mp h4)]; rfl
        · rw [if_neg (fun h => h4 h.2.2), wTerm_neg (fun h => h4 (e.mpr h))]
      · rw [sdTerm_neg h3, if_neg (fun h => h3 ⟨h.1, h.2.1⟩)]
    · rw [if_neg h2, if_neg h1, if_neg h2]
      show _ = sdTerm X y ⟨p.2.1, p.2.2, p.1.1, p.1.2, -1⟩
      have e : (p.1.1 - p.2.1) * (y - p.2.2) ≤ (X - p.2.1) * (p.1.2 - p.2.2) ↔ p.2.1 * (p.1.2 - p.2.2) + (p.1.1 - p.2.1) * (y - p.2.2) ≤ X * (p.1.2 - p.2.2) := by
        rw [Int.sub_mul X]; omega
      by_cases h3 : p.2.2 ≤ y ∧ y < p.1.2
      · rw [sdTerm_pos h3]
        by_cases h4 : (p.1.1 - p.2.1) * (y - p.2.2) ≤ (X - p.2.1) * (p.1.2 - p.2.2)
        · rw [if_pos ⟨h3.1, h3.2, h4⟩, wTerm_pos (e.mp h4)]; rfl
        · rw [if_neg (fun h => h4 h.2.2), wTerm_neg (fun h => h4 (e.mpr h))]
      · rw [sdTerm_neg h3, if_neg (fun h => h3 ⟨h.1, h.2.1⟩)]
theorem fm_none {p : Pr} {ps : List Pr} (h : sideOf p.1 p.2 = none) : (p :: ps).filterMap (fun p => sideOf p.1 p.2) = ps.filterMap (fun p => sideOf p.1 p.2) := List.filterMap_cons_none (f := fun p : Pr => sideOf p.1 p.2) h
theorem fm_some {p : Pr} {ps : List Pr} {sd : SD} (h : sideOf p.1 p.2 = some sd) : (p :: ps).filterMap (fun p => sideOf p.1 p.2) = sd :: ps.filterMap (fun p => sideOf p.1 p.2) := List.filterMap_cons_some (f := fun p : Pr => sideOf p.1 p.2) h
theorem lwSum_sides (X y : Int) : ∀ ps : List Pr, lwSum X y ps = ((ps.filterMap fun p => sideOf p.1 p.2).map (sdTerm X y)).sum
  | [] => rfl
  | p :: ps => by
    have ih := lwSum_sides X y ps
    show (List.map (lwTerm X y) (p :: ps)).sum = _
    rw [List.map_cons, List.sum_cons, pr_term]
    have ih' : (List.map (lwTerm X y) ps).sum = _ := ih
    rw [ih']
    cases h : sideOf p.1 p.2 with
    | none => rw [fm_none h, Int.zero_add]
    | some sd => rw [fm_some h, List.map_cons, List.sum_cons]
/-- the winding number at a sample -/
theorem winding_law (X y : Int) (cs : List CoT) : wSum X (crsOf (sidesOf cs) y) = lwSum X y (pairsOf cs) := by
  rw [wSum_crs, lwSum_sides, sidesOf_eq]
theorem col_le {T B x : Int} (h : 0 < B) : 0 - Int.fdiv (0 - T) B ≤ x ↔ T ≤ x * B := by
  rw [Int.fdiv_eq_ediv_of_nonneg _ (Int.le_of_lt h)]
  have h1 : 0 - (0 - T) / B ≤ x ↔ -x ≤ (0 - T) / B := by omega
  rw [h1, Int.le_ediv_iff_mul_le h, Int.neg_mul]
  omega
theorem col_term {sd : SD} {y h x : Int} (hh : 0 < h) (hs : sd.y1 < sd.y2) : colOf sd y (2 * h) ≤ x ↔ (crOf sd y).1 ≤ (x * (2 * h) + h) * (crOf sd y).2.1 := by
  unfold colOf
  have hB : 0 < 2 * (2 * h) * (sd.y2 - sd.y1) := Int.mul_pos (by omega) (by omega)
  rw [col_le hB]
  show _ ↔ numOf' sd y ≤ (x * (2 * h) + h) * (sd.y2 - sd.y1)
  generalize numOf' sd y = n
  generalize sd.y2 - sd.y1 = d at hB
  have e1 : x * (2 * (2 * h) * d) = 2 * (x * (2 * h) * d) := by
    rw [← Int.mul_assoc, ← Int.mul_assoc x 2, Int.mul_comm x 2, Int.mul_assoc 2 x, Int.mul_assoc 2]
  have e2 : 2 * h * d = 2 * (h * d) := Int.mul_assoc ..
  rw [e1, e2, Int.add_mul]
  omega
theorem cumW_steps {y h : Int} (hh : 0 < h) (x : Int) : ∀ sds : List SD, (∀ sd ∈ sds, SdIn sd) → cumW (stepsOf sds y (2 * h)) x = (sds.map (sdTerm (x * (2 * h) + h) y)).sum
  | [], _ => rfl
  | sd :: sds, hok => by
    have ih := cumW_steps (y := y) hh x sds fun s hs => hok s (.tail _ hs)
    have hsd := hok sd (.head _)
    unfold SdIn at hsd
    by_cases hc : sd.y1 ≤ y ∧ y < sd.y2
    · have e : stepsOf (sd :: sds) y (2 * h) = (colOf sd y (2 * h), sd.way) :: stepsOf sds y (2 * h) := by simp [stepsOf, covB, hc]
      rw [e, cumW_cons, ih, List.map_cons, List.sum_cons, sdTerm, if_pos hc]
      congr 1
      unfold wTerm
      have := col_term (sd := sd) (y := y) (x := x) hh hsd.2.2.2.2.2.1
      by_cases h1 : colOf sd y (2 * h) ≤ x
      · rw [if_pos h1, if_pos (this.mp h1)]; rfl
      · rw [if_neg h1, if_neg fun q => h1 (this.mpr q)]
    · have e : stepsOf (sd :: sds) y (2 * h) = stepsOf sds y (2 * h) := by simp [stepsOf, covB, hc]
      rw [e, ih, List.map_cons, List.sum_cons, sdTerm, if_neg hc, Int.zero_add]
theorem cumW_perm {l r : List (Int × Int)} (h : l.Perm r) (x : Int) : cumW l x = cumW r x := by
  unfold cumW; exact sum_perm (h.map _)
/-- on or above the row -/
noncomputable def bel (y : Int) (c : Int × Int) : Int := if c.2 ≤ y then 1 else 0
theorem tele (f : Int × Int → Int) : ∀ (cs : List (Int × Int)) (c : Int × Int), (((c :: cs).zip cs).map fun p => f p.1 - f p.2).sum = f c - f (((c :: cs).getLast?).getD c)
  | [], c => by simp
  | d :: cs, c => by
    rw [List.zip_cons_cons, List.map_cons, List.sum_cons, tele f cs d]
    have e : ((c :: d :: cs).getLast?).getD c = ((d :: cs).getLast?).getD d := by
      rw [List.getLast?_cons_cons]
      cases hl : (d :: cs).getLast? with
      | none => simp at hl
      | some a => rfl
    rw [e]; dsimp only; omega
theorem cyc_sum (f : Int × Int → Int) (sp : List (Int × Int)) : ((cyc sp).map fun p => f p.1 - f p.2).sum = 0 := by
  cases sp with
  | nil => rfl
  | cons c cs =>
    unfold cyc
    dsimp only
    rw [List.map_append, List.sum_append]
    have := tele f cs c
    rw [show List.drop 1 (c :: cs) = cs from rfl, this]
    simp
    omega
theorem pairs_sum (f : Int × Int → Int) : ∀ cs : List CoT, ((pairsOf cs).map fun p => f p.1 - f p.2).sum = 0
  | [] => rfl
  | c :: cs => by
    have ih := pairs_sum f cs
    unfold pairsOf at ih ⊢
    rw [List.flatMap_cons, List.map_append, List.sum_append, cyc_sum, ih]; rfl
theorem way_pr (y : Int) (p : Pr) : bel y p.1 - bel y p.2 = (match sideOf p.1 p.2 with | none => 0 | some sd => if sd.y1 ≤ y ∧ y < sd.y2 then sd.way else 0) := by
  unfold bel sideOf
  by_cases h1 : p.1.2 = p.2.2
  · rw [if_pos h1, h1]; exact Int.sub_self _
  · by_cases h2 : p.1.2 < p.2.2
    · rw [if_neg h1, if_pos h2]; dsimp only; (repeat' split) <;> omega
    · rw [if_neg h1, if_neg h2]; dsimp only; (repeat' split) <;> omega
theorem ways_steps (y st : Int) : ∀ ps : List Pr, ((stepsOf (ps.filterMap fun p => sideOf p.1 p.2) y st).map (·.2)).sum = (ps.map fun p => bel y p.1 - bel y p.2).sum
  | [] => rfl
  | p :: ps => by
    have ih := ways_steps y st ps
    rw [List.map_cons, List.sum_cons, way_pr, ← ih]
    cases h : sideOf p.1 p.2 with
    | none => rw [fm_none h, Int.zero_add]
    | some sd =>
      rw [fm_some h]
      by_cases hc : sd.y1 ≤ y ∧ y < sd.y2
      · simp [stepsOf, covB, hc]
      · simp [stepsOf, covB, hc]
theorem num_in {sd : SD} {y : Int} (h : SdIn sd) (hc : sd.y1 ≤ y ∧ y < sd.y2) : -4 * (sd.y2 - sd.y1) ≤ (crOf sd y).1 ∧ (crOf sd y).1 ≤ 16 * (sd.y2 - sd.y1) := by
  unfold SdIn at h
  have e : (crOf sd y).1 = sd.x1 * ((sd.y2 - sd.y1) - (y - sd.y1)) + sd.x2 * (y - sd.y1) := by
    show sd.x1 * (sd.y2 - sd.y1) + (sd.x2 - sd.x1) * (y - sd.y1) = _
    generalize sd.y2 - sd.y1 = d
    generalize y - sd.y1 = t
    rw [Int.sub_mul, Int.mul_sub]; omega
  rw [e]
  generalize hd : sd.y2 - sd.y1 = d
  generalize ht : y - sd.y1 = t
  have h1 : 0 ≤ d - t := by omega
  have h2 : 0 ≤ t := by omega
  have a1 := Int.mul_le_mul_of_nonneg_right h.1 h1
  have a2 := Int.mul_le_mul_of_nonneg_right h.2.1 h1
  have b1 := Int.mul_le_mul_of_nonneg_right h.2.2.1 h2
  have b2 := Int.mul_le_mul_of_nonneg_right h.2.2.2.1 h2
  omega
theorem col_in {sd : SD} {y h lo hi : Int} (hok : SdIn sd) (hc : sd.y1 ≤ y ∧ y < sd.y2) (hh : 0 < h) (hlo : (lo - 1) * (2 * h) + h < -4) (hhi : 16 ≤ (hi - 1) * (2 * h) + h) : lo ≤ colOf sd y (2 * h) ∧ colOf sd y (2 * h) < hi := by
  have hn := num_in hok hc
  unfold SdIn at hok
  have hy := hok.2.2.2.2.2.1
  have hd : 0 < sd.y2 - sd.y1 := by omega
  constructor
  · refine Int.not_lt.mp fun q => ?_
    have h1 := (col_term (sd := sd) (y := y) (x := lo - 1) hh hy).mp (by omega)
    have h2 : ((lo - 1) * (2 * h) + h) * (sd.y2 - sd.y1) < -4 * (sd.y2 - sd.y1) := Int.mul_lt_mul_of_pos_right hlo hd
    have h3 : (crOf sd y).1 ≤ ((lo - 1) * (2 * h) + h) * (sd.y2 - sd.y1) := h1
    omega
  · have h2 : 16 * (sd.y2 - sd.y1) ≤ ((hi - 1) * (2 * h) + h) * (sd.y2 - sd.y1) := Int.mul_le_mul_of_nonneg_right hhi (Int.le_of_lt hd)
    have h1 := (col_term (sd := sd) (y := y) (x := hi - 1) hh hy).mpr (show (crOf sd y).1 ≤ ((hi - 1) * (2 * h) + h) * (sd.y2 - sd.y1) by omega)
    omega
theorem spans_plain {cs : List CoT} (hcs : ∀ c ∈ cs, CtOk c) {nz : Bool} {y h lo hi : Int} {os : List (Int × Int)} (hh : 0 < h) (hlo : (lo - 1) * (2 * h) + h < -4) (hhi : 16 ≤ (hi - 1) * (2 * h) + h)
    (hp : os.Perm (stepsOf (sidesOf cs) y (2 * h))) (hs : os.Pairwise fun a b => a.1 ≤ b.1) (hlh : lo ≤ hi) :
    (spRec nz os ([], 0, none)).1 = lsRun nz (fun col => lwSum (col * (2 * h) + h) y (pairsOf cs)) lo (hi - lo).toNat := by
  have hg : ∀ x, lwSum (x * (2 * h) + h) y (pairsOf cs) = cumW os x := fun x => by
    rw [cumW_perm hp, cumW_steps hh x _ (sidesOf_in hcs), lwSum_sides, sidesOf_eq]
  have hb : ∀ q ∈ os, lo ≤ q.1 ∧ q.1 < hi := fun q hq => by
    have hq' := hp.mem_iff.mp hq
    unfold stepsOf at hq'
    obtain ⟨sd, hsd, rfl⟩ := List.mem_map.mp hq'
    obtain ⟨h1, h2⟩ := List.mem_filter.mp hsd
    exact col_in (sidesOf_in hcs sd h1) (by simpa [covB] using h2) hh hlo hhi
  have ht : (os.map (·.2)).sum = 0 := by
    rw [sum_perm (hp.map (·.2)), sidesOf_eq, ways_steps, pairs_sum]
  show _ = R nz (fun col => lwSum (col * (2 * h) + h) y (pairsOf cs)) lo hi
  cases os with
  | nil =>
    have := R_out (nz := nz) (g := fun col => lwSum (col * (2 * h) + h) y (pairsOf cs)) (Int.le_refl lo) (hi - lo).toNat fun c _ _ => by
      rw [hg]; show insideL nz 0 = false; cases nz <;> rfl
    rw [show lo + ((hi - lo).toNat : Int) = hi by omega] at this
    rw [this]
    show [] = _
    unfold R
    rw [Int.sub_self]; rfl
  | cons q os =>
    obtain ⟨col, way⟩ := q
    have hc := hb _ (.head _)
    dsimp only at hc
    refine spRec_runs os [] 0 none col way hs hb (fun x _ _ => by rw [hg]; omega) (by rw [Int.zero_add]; exact ht) (fun s h => by cases h) (fun a e h => by simp at h) ?_
    have := R_out (nz := nz) (g := fun col => lwSum (col * (2 * h) + h) y (pairsOf cs)) (Int.le_refl lo) (col - lo).toNat fun c _ h2 => by
      rw [hg, cumW_low fun q hq => ?_]
      · cases nz <;> rfl
      · rcases List.mem_cons.mp hq with rfl | hq
        · dsimp only; omega
        · have := (List.pairwise_cons.mp hs).1 q hq
          dsimp only at this; omega
    rw [show lo + ((col - lo).toNat : Int) = col by omega] at this
    rw [this]
    unfold R
    rw [Int.sub_self]; rfl
/-- the spans, in the words of the walks -/
theorem spans_law {cs : List CoT} (hcs : ∀ c ∈ cs, CtOk c) {nz : Bool} {y st : Int} {os : List (Int × Int)} (hst : st = 2 ∨ st = 4 ∨ st = 6)
    (hp : os.Perm (stepsOf (sidesOf cs) y st)) (hs : os.Pairwise fun a b => a.1 ≤ b.1) :
    (spRec nz os ([], 0, none)).1 = lsRun nz (fun col => lwSum (col * st + Int.fdiv st 2) y (pairsOf cs)) (Int.fdiv (-6) st - 1) ((Int.fdiv 20 st + 2 - (Int.fdiv (-6) st - 1)).toNat) := by
  rcases hst with rfl | rfl | rfl
  · exact spans_plain hcs (h := 1) (lo := -4) (hi := 12) (by decide) (by decide) (by decide) hp hs (by decide)
  · exact spans_plain hcs (h := 2) (lo := -3) (hi := 7) (by decide) (by decide) (by decide) hp hs (by decide)
  · exact spans_plain hcs (h := 3) (lo := -2) (hi := 5) (by decide) (by decide) (by decide) hp hs (by decide)
/-- the row of a pair -/
noncomputable def rowB (y : Int) (p : Pr) : Bool := decide ((if p.2.2 < p.1.2 then p.2.2 else p.1.2) ≤ y ∧ y < (if p.2.2 < p.1.2 then p.1.2 else p.2.2))
theorem row_pr (y : Int) (p : Pr) : rowB y p = (match sideOf p.1 p.2 with | none => false | some sd => decide (sd.y1 ≤ y ∧ y < sd.y2)) := by
  unfold rowB sideOf
  by_cases h1 : p.1.2 = p.2.2
  · rw [if_pos h1, if_neg (by omega), if_neg (by omega)]; exact decide_eq_false (by omega)
  · by_cases h2 : p.1.2 < p.2.2
    · rw [if_neg h1, if_pos h2, if_neg (by omega), if_neg (by omega)]
    · rw [if_neg h1, if_neg h2, if_pos (by omega), if_pos (by omega)]
theorem rows_len (y : Int) : ∀ ps : List Pr, (crsOf (ps.filterMap fun p => sideOf p.1 p.2) y).length = (ps.filter (rowB y)).length
  | [] => rfl
  | p :: ps => by
    have ih := rows_len y ps
    have hr := row_pr y p
    cases h : sideOf p.1 p.2 with
    | none =>
      rw [h] at hr
      rw [fm_none h, ih, List.filter_cons_of_neg (by rw [hr]; simp)]
    | some sd =>
      rw [h] at hr
      rw [fm_some h]
      by_cases hc : sd.y1 ≤ y ∧ y < sd.y2
      · have e : crsOf (sd :: ps.filterMap fun p => sideOf p.1 p.2) y = crOf sd y :: crsOf (ps.filterMap fun p => sideOf p.1 p.2) y := by simp [crsOf, hc]
        rw [e, List.filter_cons_of_pos (by rw [hr]; simpa using hc), List.length_cons, List.length_cons, ih]
      · have e : crsOf (sd :: ps.filterMap fun p => sideOf p.1 p.2) y = crsOf (ps.filterMap fun p => sideOf p.1 p.2) y := by simp [crsOf, hc]
        rw [e, List.filter_cons_of_neg (by rw [hr]; simpa using hc), ih]
/-- the crossings are as many as the pairs that cover the row -/
theorem rows_law (y : Int) (cs : List CoT) : (crsOf (sidesOf cs) y).length = ((pairsOf cs).filter (rowB y)).length := by
  rw [sidesOf_eq, rows_len]
end
section
/-- an object that is no cell and no source -/
noncomputable def good (o : Obj) : Prop := (∀ x, o.data ≠ .cell x) ∧ ¬ SrcOk o
theorem good_tup {xs : List Value} {n : Nat} : good (tupOf xs n) := by
  refine ⟨(fun _ h => by cases h), ?_⟩
  rintro ⟨_, _, _, _, _, h, _⟩
  exact absurd (congrArg Obj.cls h) (by simp)
theorem good_inst {C d : Addr} : good (instObj C d) := by
  refine ⟨(fun _ h => by cases h), ?_⟩
  rintro ⟨_, _, _, _, _, h, _⟩
  exact absurd (congrArg Obj.cls h) (by simp)
theorem good_dict {es : List DictEntry} {n : Nat} : good (dictOf es n) := by
  refine ⟨(fun _ h => by cases h), ?_⟩
  rintro ⟨_, _, _, _, _, h, _⟩
  exact absurd (congrArg Obj.cls h) (by simp)
theorem good_list {vs : List Value} {n : Nat} (h : ∀ v ∈ vs, ∃ a, v = .ref a) : good (PySem.W.listOf vs.toArray n) := by
  refine ⟨(fun _ h => by cases h), ?_⟩
  rintro ⟨_, _, _, _, _, e, _⟩
  have e1 := congrArg Obj.data e
  simp only [Data.seq.injEq] at e1
  have e2 := congrArg Array.toList e1.1
  simp only at e2
  obtain ⟨a, ha⟩ := h _ (by rw [e2]; exact .head _)
  cases ha
section
variable {all all' : List (Addr × Obj)}
theorem re_sp (hR : ∀ p ∈ all, good p.2 → p ∈ all') {v : Value} {c : Int × Int} (h : DatIn all v (spD c)) : DatIn all' v (spD c) := by
  obtain ⟨a, n, t1, t2, rfl, hm⟩ := sp_inv h
  exact .tuple (vs := [.int c.1 t1, .int c.2 t2]) (hR _ hm good_tup) (.cons (.int _ _) (.cons (.int _ _) .nil))
theorem re_pr (hR : ∀ p ∈ all, good p.2 → p ∈ all') {v : Value} {c : (Int × Int) × (Int × Int)} (h : DatIn all v (prD c)) : DatIn all' v (prD c) := by
  obtain ⟨a, n, v1, v2, rfl, hm, h1, h2⟩ := pr_inv h
  exact .tuple (vs := [v1, v2]) (hR _ hm good_tup) (.cons (re_sp hR h1) (.cons (re_sp hR h2) .nil))
theorem re_cr (hR : ∀ p ∈ all, good p.2 → p ∈ all') {v : Value} {c : Int × Int × Int} (h : DatIn all v (crD c)) : DatIn all' v (crD c) := by
  obtain ⟨a, b, n, k, t1, t2, t3, rfl, hm, hm2⟩ := cr_inv h
  exact .tuple (vs := [.ref b, .int c.2.2 t3]) (hR _ hm good_tup) (.cons (.tuple (vs := [.int c.1 t1, .int c.2.1 t2]) (hR _ hm2 good_tup) (.cons (.int _ _) (.cons (.int _ _) .nil))) (.cons (.int _ _) .nil))
theorem re_all {α : Type} {f : α → Dat} (hf : ∀ {v : Value} {c : α}, DatIn all v (f c) → DatIn all' v (f c)) : ∀ {cs : List α} {vs : List Value}, DatAll all vs (cs.map f) → DatAll all' vs (cs.map f)
  | [], _, h => by cases h; exact .nil
  | c :: cs, _, h => by
    cases h with
    | cons h1 hr => exact .cons (hf h1) (re_all hf hr)
theorem re_co (hR : ∀ p ∈ all, good p.2 → p ∈ all') {v : Value} {c : CoT} (h : DatIn all v (coD c)) : DatIn all' v (coD c) := by
  obtain ⟨a, n, t, k, vs, rfl, hm, hm1, h1⟩ := co_inv h
  exact .tuple (vs := [.ref t, .bool c.2]) (hR _ hm good_tup) (.cons (.tuple (vs := vs) (hR _ hm1 good_tup) (re_all (re_sp hR) h1)) (.cons (.bool _) .nil))
theorem re_side (hR : ∀ p ∈ all, good p.2 → p ∈ all') {v : Value} {sd : SD} (h : SideIn all v sd) : SideIn all' v sd := by
  obtain ⟨x, d, g1, g2, g3, g4, g5, k1, k2, k3, k4, k5, t1, t2, t3, t4, t5, e, m1, m2⟩ := h
  exact ⟨x, d, g1, g2, g3, g4, g5, k1, k2, k3, k4, k5, t1, t2, t3, t4, t5, e, hR _ m1 good_inst, hR _ m2 good_dict⟩
theorem refs_of {α : Type} {f : α → Dat} (hf : ∀ {v : Value} {c : α}, DatIn all v (f c) → ∃ a, v = .ref a) {cs : List α} {vs : List Value} (h : DatAll all vs (cs.map f)) : ∀ v ∈ vs, ∃ a, v = .ref a := by
  intro v hv
  obtain ⟨i, hi, e⟩ := List.getElem_of_mem hv
  obtain ⟨c, _, hI⟩ := dat_of h (i := i) (v := v) (by rw [List.getElem?_eq_getElem hi, e])
  exact hf hI
theorem ref_pr {v : Value} {c : (Int × Int) × (Int × Int)} (h : DatIn all v (prD c)) : ∃ a, v = .ref a := by obtain ⟨a, _, _, _, rfl, _⟩ := pr_inv h; exact ⟨a, rfl⟩
theorem ref_co {v : Value} {c : CoT} (h : DatIn all v (coD c)) : ∃ a, v = .ref a := by obtain ⟨a, _, _, _, _, rfl, _⟩ := co_inv h; exact ⟨a, rfl⟩
theorem refs_side {vs : List Value} {sds : List SD} (h : All2 (SideIn all) vs sds) : ∀ v ∈ vs, ∃ a, v = .ref a := by
  intro v hv
  obtain ⟨i, hi, e⟩ := List.getElem_of_mem hv
  obtain ⟨sd, _, hI⟩ := h.get (i := i) (a := v) (by rw [List.getElem?_eq_getElem hi, e])
  obtain ⟨x, _, _, _, _, _, _, _, _, _, _, _, _, _, _, _, _, e, _⟩ := hI
  exact ⟨x, e⟩
end
/-- a row of the menu -/
noncomputable def MenuOk (f g : Int) : Prop := (1 ≤ f ∧ f ≤ 3 ∧ 1 ≤ g ∧ g ≤ 12) ∧ Int.fmod g (2 * f) = 0 ∧ (Int.fdiv g f = 2 ∨ Int.fdiv g f = 4 ∨ Int.fdiv g f = 6)
theorem menu_pick {h₀ h : Heap} {L : Addr} {all : List (Addr × Obj)} {vs : List Value} {r : Value} {i : Nat} (N : News h₀ L h all) (hi : vs[i]? = some r)
    (hall : ∀ v ∈ vs, ∃ (aM : Addr) (f g : Int) (kf kg : Nat), v = .ref aM ∧ (aM, tupOf [.int f kf, .int g kg] 0) ∈ all ∧ MenuOk f g) : ∃ (aM : Addr) (f g : Int) (kf kg : Nat), r = .ref aM ∧ (aM, tupOf [.int f kf, .int g kg] 0) ∈ all ∧ MenuOk f g :=
  hall r (List.mem_of_getElem? hi)
theorem rule_pick {vs : List Value} {r : Value} {i : Nat} (hi : vs[i]? = some r) (hall : ∀ v ∈ vs, ∃ (nz : Bool) (t : Nat), v = ruleV nz t) : ∃ (nz : Bool) (t : Nat), r = ruleV nz t := hall r (List.mem_of_getElem? hi)
end
section
noncomputable def rLo (p : Pr) : Int := if p.2.2 < p.1.2 then p.2.2 else p.1.2
noncomputable def rHi (p : Pr) : Int := if p.2.2 < p.1.2 then p.1.2 else p.2.2
theorem rowB_eq (y : Int) (p : Pr) : rowB y p = decide (rLo p ≤ y ∧ y < rHi p) := rfl
/-- a list of two ints, the lower and the upper row of a pair -/
noncomputable def RowIn (news : List (Addr × Obj)) (v : Value) (p : Pr) : Prop := ∃ (l : Addr) (c t1 t2 : Nat), v = .ref l ∧ (l, PySem.W.listOf [Value.int (rLo p) t1, .int (rHi p) t2].toArray c) ∈ news
theorem RowIn.mono {n n' : List (Addr × Obj)} {v : Value} {p : Pr} (h : RowIn n v p) (hs : ∀ q ∈ n, q ∈ n') : RowIn n' v p := by
  obtain ⟨l, c, t1, t2, e, hm⟩ := h
  exact ⟨l, c, t1, t2, e, hs _ hm⟩
section
variable {prog : Program} {w : World} {A : Around} {E : Value → Shared → Prop} {s : Shared} {h₀ : Heap} {L l : Addr} {m : Str → Option Value} {news : List (Addr × Obj)} {Q : Value → Shared → Prop}
theorem sorted_two {a b : Int} {t u n : Nat} (F : Fr h₀ L s.heap m) (N : News h₀ L s.heap news) (hl : (l, PySem.W.listOf [Value.int a t, .int b u].toArray n) ∈ news)
    (h : ∀ D c t1 t2 h', Fr h₀ L h' m → News h₀ L h' ((D, PySem.W.listOf [Value.int (if b < a then b else a) t1, .int (if b < a then a else b) t2].toArray c) :: news) → (∀ q ∈ news, @LT.lt Nat _ q.1 D) → Q (.ref D) { s with heap := h' }) :
    wpAny (model prog w) A (call (.builtin "sorted") [.ref l]) Q E s := by
  refine kso_sorted (vs := [Value.int a t, .int b u]) (ns := [a, b]) F N ⟨_, (N _ hl).1, rfl, n, rfl⟩ (.cons _ _ (.cons _ _ .nil)) (by simp) ?_
  intro D vs' ns' c h' F' N' l1 i' e' p' o' _
  have hns : ns' = [if b < a then b else a, if b < a then a else b] := by
    by_cases hb : b < a
    · rw [if_pos hb, if_pos hb]
      exact ksm_same (p'.trans (List.Perm.swap _ _ _)) o' (by simp; omega)
    · rw [if_neg hb, if_neg hb]
      exact ksm_same p' o' (by simp; omega)
  subst hns
  obtain ⟨t1, w1, rfl, i1⟩ := i'.cons_inv
  obtain ⟨t2, w2, rfl, i2⟩ := i1.cons_inv
  cases i2.nil_inv
  exact h D c t1 t2 h' F' N' l1
theorem slice_list1 {value slice : PySem.Expr} {vs : List Value} {nn u : Nat} (F : Fr h₀ L s.heap m) (N : News h₀ L s.heap news) (hl : (l, PySem.W.listOf vs.toArray nn) ∈ news) (hn : vs.length ≤ 1000)
    (h : ∀ D h', Fr h₀ L h' m → News h₀ L h' ((D, PySem.W.listOf (vs.drop 1).toArray 0) :: news) → (∀ q ∈ news, @LT.lt Nat _ q.1 D) → Q (.ref D) { s with heap := h' })
    (hs : subscripted slice false (.ref l) (.ref s.heap.objs.size) = operate [.ref s.heap.objs.size, .ref l] (getItem (.ref l) (.ref s.heap.objs.size))) (ht : ∀ r, letTemporaryGo value (.ref l) r = pure ()) :
    wpAny (model prog w) A (subscriptTail value slice (.ref l) (.ref s.heap.objs.size)) Q E { s with heap := s.heap.push { cls := .type "slice", data := .fields #[.int 1 u, .none, .none] } } := by
  refine kms_slice_lit (its := vs.toArray) (zs := vs.drop 1) F N ⟨_, (N _ hl).1, rfl, nn, rfl⟩ (.int _ _) .none ?_ (fun D h' F' N' l1 => h D h' F' N' l1) hs ht (by rw [sizeLine_eq, List.size_toArray]; omega)
  show ((vs.drop (kms_lo (some 1) vs.length)).take (kms_hi none vs.length - kms_lo (some 1) vs.length)) = _
  have e1 : kms_lo (some 1) vs.length = min 1 vs.length := rfl
  have e2 : kms_hi none vs.length = vs.length := rfl
  rw [e1, e2, kmk_drop_min]
  exact List.take_of_length_le (by rw [List.length_drop]; omega)
/-- what a call has made joins the rest: the ledger is the source, the row's cell and one list -/
theorem packN {h : Heap} {b y : Addr} {ob ob0 oy : Obj} {X tl : List (Addr × Obj)} (N : News h₀ L h ((b, ob) :: (y, oy) :: (X ++ tl))) (hl : ∀ q ∈ (b, ob0) :: (y, oy) :: X, ∀ p ∈ tl, q.1 < p.1) (hb : ∀ p ∈ X, p.1 ≠ b) (hy : ∀ p ∈ X, p.1 ≠ y) :
    ∃ X', (∀ p ∈ X, p ∈ X') ∧ (∀ p ∈ tl, p ∈ X') ∧ (∀ p ∈ X', p.1 ≠ b) ∧ (∀ p ∈ X', p.1 ≠ y) ∧ News h₀ L h ((b, ob) :: (y, oy) :: X') :=
  ⟨X ++ tl, fun p hp => List.mem_append_left _ hp, fun p hp => List.mem_append_right _ hp,
    fun p hp => (List.mem_append.mp hp).elim (hb p) fun hp => Nat.ne_of_gt (hl _ (.head _) p hp),
    fun p hp => (List.mem_append.mp hp).elim (hy p) fun hp => Nat.ne_of_gt (hl _ (.tail _ (.head _)) p hp), N⟩
theorem packE {h : Heap} {b y : Addr} {ob oy : Obj} {X tl : List (Addr × Obj)} (N : News h₀ L h ((b, ob) :: (y, oy) :: (X ++ tl))) :
    ∃ X', (∀ p ∈ X, p ∈ X') ∧ (∀ p ∈ tl, p ∈ X') ∧ News h₀ L h ((b, ob) :: (y, oy) :: X') :=
  ⟨X ++ tl, fun p hp => List.mem_append_left _ hp, fun p hp => List.mem_append_right _ hp, N⟩
theorem packD {h : Heap} {d : Addr × Obj} {b y : Addr} {ob oy : Obj} {X : List (Addr × Obj)} {x : Option Value} (hoy : oy.data = .cell x) (N : News h₀ L h (d :: (b, ob) :: (y, oy) :: X)) :
    ∃ (oy' : Obj) (X' : List (Addr × Obj)), oy'.data = .cell x ∧ (∀ p ∈ X, p ∈ X') ∧ News h₀ L h ((b, ob) :: (y, oy') :: X') :=
  ⟨oy, d :: X, hoy, fun p hp => .tail _ hp, nwX N (by intro p hp; simp only [List.mem_cons] at hp ⊢; grind)⟩
theorem in_pack {b y : Addr} {ob oy : Obj} {X tl X' : List (Addr × Obj)} {x : Option Value} (h1 : ∀ p ∈ X, p ∈ X') (h2 : ∀ p ∈ tl, p ∈ X') (hb : SrcOk ob) (hy : oy.data = .cell x) : ∀ p ∈ (b, ob) :: (y, oy) :: (X ++ tl), good p.2 → p ∈ X' := by
  intro p hp hg
  rcases List.mem_cons.mp hp with rfl | hp
  · exact absurd hb hg.2
  rcases List.mem_cons.mp hp with rfl | hp
  · exact absurd hy (hg.1 _)
  exact (List.mem_append.mp hp).elim (h1 p) (h2 p)
/-- a frame whose map is hidden but for a name -/
theorem frAbs {h : Heap} {m : Str → Option Value} (F : Fr h₀ L h m) {x : Str} {v : Value} (hx : m x = some v) : ∃ m9, m9 = m ∧ Fr h₀ L h (fun y => if y = x then some v else m9 y) := by
  refine ⟨m, rfl, ?_⟩
  have e : (fun y => if y = x then some v else m y) = m := funext fun y => by
    by_cases h9 : y = x
    · rw [if_pos h9, h9, hx]
    · rw [if_neg h9]
  rw [e]; exact F
theorem ref_cr {all : List (Addr × Obj)} {v : Value} {c : Cr} (h : DatIn all v (crD c)) : ∃ a, v = .ref a := by obtain ⟨a, _, _, _, _, _, _, rfl, _⟩ := cr_inv h; exact ⟨a, rfl⟩
theorem ref_sp {all : List (Addr × Obj)} {v : Value} {c : Int × Int} (h : DatIn all v (spD c)) : ∃ a, v = .ref a := by obtain ⟨a, _, _, _, rfl, _⟩ := sp_inv h; exact ⟨a, rfl⟩
end
end
section
theorem row_y {d st : Int} (hs : st = 2 ∨ st = 4 ∨ st = 6) (h1 : 0 ≤ d) (h2 : d < Int.fdiv 14 st + 1) : (-100 ≤ (d - 1) * st + Int.fdiv st 2 ∧ (d - 1) * st + Int.fdiv st 2 ≤ 100) ∧ -1000 ≤ d - 1 ∧ d - 1 ≤ 1000 := by
  rcases hs with rfl | rfl | rfl
  · rw [show Int.fdiv 14 2 = 7 by decide] at h2; rw [show Int.fdiv 2 2 = 1 by decide]; omega
  · rw [show Int.fdiv 14 4 = 3 by decide] at h2; rw [show Int.fdiv 4 2 = 2 by decide]; omega
  · rw [show Int.fdiv 14 6 = 2 by decide] at h2; rw [show Int.fdiv 6 2 = 3 by decide]; omega
theorem col_x {d st : Int} (hs : st = 2 ∨ st = 4 ∨ st = 6) (h1 : 0 ≤ d) (h2 : d < 9) : (-1000 ≤ (d - 2) * st + Int.fdiv st 2 ∧ (d - 2) * st + Int.fdiv st 2 ≤ 1000) ∧ -1000 ≤ d - 2 ∧ d - 2 ≤ 1000 := by
  rcases hs with rfl | rfl | rfl
  · rw [show Int.fdiv 2 2 = 1 by decide]; omega
  · rw [show Int.fdiv 4 2 = 2 by decide]; omega
  · rw [show Int.fdiv 6 2 = 3 by decide]; omega
section
variable {prog : Program} {w : World} {A : Around} {E : Value → Shared → Prop} {s : Shared} {h₀ : Heap} {L : Addr} {m : Str → Option Value} {news n1 n2 : List (Addr × Obj)}
open Classical in
theorem ne_same {l e : Addr} {vs ws : List Value} {ds es : List (Int × Int)} {n k : Nat} {Q : Value → Shared → Prop} (N : News h₀ L s.heap news) (hl : (l, PySem.W.listOf vs.toArray n) ∈ news) (he : (e, PySem.W.listOf ws.toArray k) ∈ news) (hD : DatAll n1 vs (ds.map spD)) (hE : DatAll n2 ws (es.map spD)) (hs : ∀ p ∈ n1, p ∈ news) (ht : ∀ p ∈ n2, p ∈ news)
    (hq : ds = es) (hu : A.units + 64 < cLine) (h : Q (.bool false) s) : wpAny (model prog w) A (compareOp .NotEq (.ref l) (.ref e)) Q E s := by
  refine kqd_ne N hl rfl rfl hD hs he rfl rfl hE ht (fun d hd => ?_) (fun d hd => ?_) hu ?_
  · obtain ⟨c, _, rfl⟩ := List.mem_map.mp hd; rfl
  · obtain ⟨c, _, rfl⟩ := List.mem_map.mp hd; rfl
  · rw [hq, decide_eq_true rfl]; exact h
end
theorem ne_int_same {prog : Program} {w : World} {A : Around} {E : Value → Shared → Prop} {s : Shared} {a b : Int} {t u : Nat} {Q : Value → Shared → Prop} (hab : a = b) (h : Q (.bool false) s) : wpAny (model prog w) A (compareOp .NotEq (.int a t) (.int b u)) Q E s := by
  subst hab
  refine ne_int ?_
  rw [bne_self_eq_false]
  exact h
theorem memL {p : Addr × Obj} {tl X : List (Addr × Obj)} (h : p ∈ tl) (hs : ∀ q ∈ tl, q ∈ X) : p ∈ X := hs p h
local macro_rules | `(tactic| k_qdec) => `(tactic| first | exact nOk | exact iNo)
set_option maxHeartbeats 8000000 in
theorem lawT : PySem.Challenge.rw_nu0008_01.Holds := by
  k_with_none
  k_with "call builtin:len" => (k_here; (with_reducible show wpAny _ _ (call (Value.builtin "len") [Value.ref _]) _ _ _); k_dflt (refine' len_led (by k_asm) (by k_mem) (by ((try simp only [List.length_append, List.length_cons, List.length_nil]); omega)) ?_; k_whole))
  k_with "subscriptTail" => (k_here; (with_reducible show wpAny _ _ (subscriptTail _ _ (Value.ref _) (Value.int _ _)) _ _ _); k_dflt (refine' item_led (by k_asm) (by k_mem) (by omega) (by omega) (by with_reducible assumption) ?_ (by with_unfolding_all rfl); k_whole))
  k_with "exec For Name Call cons nil" => (k_here; k_dflt (refine' For_at ?_ (by intro _; with_unfolding_all rfl)))
  k_with "eval Call" => (k_here; k_dflt (refine Call_ ?_))
  k_with "call ref" => (k_here; (refine stopHere ?_))
  k_with "compareOp NotEq int int" => (k_here; (refine stopHere ?_))
  k_with "SrcLP" => (k_here; (refine stopHere ?_))
  k_with "CompEnd" => (k_here; (refine stopHere ?_))
  k_with "CompSrcT" => (k_here; (refine stopHere ?_))
  k_with "compareOp NotEq ref ref" => (k_here; (refine stopHere ?_))
  k_with "pyIter ref" => (k_here; (refine stopHere ?_))
  k_with "call builtin:sorted" => (k_here; (k_dflt (refine' sorted_two (by k_asm) (by k_asm) (by k_mem) ?_; k_whole)); intro D'kw c'kw t1'kw t2'kw h'kw F'kw N'kw l1kw; (try k_lt l1kw); (try k_sweep))
  k_with "subscriptTail Subscript Name UnaryOp Constant ref int" => (k_here; (first | (with_reducible show wpAny _ _ (subscriptTail _ _ (Value.ref _) (Value.int 0 _)) _ _ _) | (with_reducible show wpAny _ _ (subscriptTail _ _ (Value.ref _) (Value.int 1 _)) _ _ _)); k_dflt (refine' item_ledT (by k_asm) (by k_mem) (by decide) (by decide) (by exact rfl) ?_ (by with_unfolding_all rfl); k_whole))
  k_with "subscriptTail Subscript" => (k_here; (first | (with_reducible show wpAny _ _ (subscriptTail _ _ (Value.ref _) (Value.int 0 _)) _ _ _) | (with_reducible show wpAny _ _ (subscriptTail _ _ (Value.ref _) (Value.int 1 _)) _ _ _)); k_dflt (refine' item_ledT (by k_asm) (by k_mem) (by decide) (by decide) (by exact rfl) ?_ (by with_unfolding_all rfl); k_whole))
  k_with "subscriptTail Name Constant ref int" => (k_here; (first | (with_reducible show wpAny _ _ (subscriptTail _ _ (Value.ref _) (Value.int 0 _)) _ _ _) | (with_reducible show wpAny _ _ (subscriptTail _ _ (Value.ref _) (Value.int 1 _)) _ _ _)); k_dflt (refine' item_ledT (by k_asm) (by k_mem) (by decide) (by decide) (by exact rfl) ?_ (by with_unfolding_all rfl); k_whole))
  k_with "subscriptTail Name Constant ref int" => (k_here; (first | (with_reducible show wpAny _ _ (subscriptTail _ _ (Value.ref _) (Value.int 0 _)) _ _ _) | (with_reducible show wpAny _ _ (subscriptTail _ _ (Value.ref _) (Value.int 1 _)) _ _ _)); k_dflt (refine' item_led (by k_asm) (by exact List.mem_cons_self) (by decide) (by decide) (by exact rfl) ?_ (by with_unfolding_all rfl); k_whole))
  k_with "execs nil" => (k_here; refine wpAny_execs_nil ?_)
  k_with "exec For Tuple Call cons nil" => (k_here; k_dflt (refine' For_at ?_ (by intro _; with_unfolding_all rfl)))
  k_with "subscriptTail Name Slice ref ref" => (k_here; k_dflt (refine' slice_list1 (by k_asm) (by k_asm) (by k_mem) (by omega) ?_ (by with_unfolding_all rfl) (by (intro _; with_unfolding_all rfl)); k_whole); intro D'kw h'kw F'kw N'kw l1kw; (try k_lt l1kw); (try k_sweep))
  k_with "call type:zip" => (k_here; (refine stopHere ?_))
  w_on
  refine holds_law saidT fun said => ?_
  refine holds_open (q := hV) (loose := [Str.ofString "sides_of"]) (Xt := fun s => xlAt hV [] s && recOk (RowW.records PySem.Challenge.rw_nu0008_01.row.toRowW) s) (XP := XL hV []) (Yf := (kHook hK hA hA_ok).obs) (Ya := (kHook hK hA hA_ok).val) (YP := (kHook hK hA hA_ok).says) (N := 3218) left0 (kHook hK hA hA_ok).of (kHook hK hA hA_ok).keeps (fun s e => xl_of s (Bool.and_eq_true_iff.mp e).1) XL.keeps (by rfl) (by rfl) (by rfl) (fun s e => recFacts_of (Bool.and_eq_true_iff.mp e).2) (by rfl) (by first | assumption | decide +kernel) (by decide +kernel) ⟨rfl, rfl, rfl, rfl, rfl, by decide +kernel⟩ ?hw ?hc
  (case hw => w_witness2)
  clear said
  k_go0
  (all_goals try k_fold)
  k_steps
  (have D'kw := trivial; have c'kw := trivial; have t1'kw := trivial; have t2'kw := trivial; have h'kw := trivial; have F'kw := trivial; have N'kw := trivial; have l1kw := trivial; rename_i s1 mg9 mb9 G9 Y9 fa9 o9 pm9 doc9 ho9 hg9 KX9 X9 V9 GL9 T9 B9 TE9 TW9 wA wO M9 wB wC hcd9 ns hs9 hlay9 hLay9 hr8 hl28 wa1 wa2 lsc vsc wa3 hLsc ra9 w19 r09 hI9 hr7 hc63 hcT K09 hD9 h1 tk1 F0 oc hoc X09 hA tkA FA hB tkB FB NB hC tkC tC uC vC hrC FC NC hkC; clear D'kw c'kw t1'kw t2'kw h'kw F'kw N'kw l1kw)
  have hn63 : ns.length ≤ 63 := by omega
  obtain ⟨n, hn, hn2⟩ : ∃ n : Nat, (n : Int) = (if (if (2 : Int) < (ns.length : Int) then (2 : Int) else (ns.length : Int)) > 1 then (if (2 : Int) < (ns.length : Int) then (2 : Int) else (ns.length : Int)) else 1) ∧ 1 ≤ n ∧ n ≤ 2 := by
    by_cases h2 : (2 : Int) < (ns.length : Int)
    · exact ⟨2, by rw [if_pos h2]; rfl, by omega⟩
    · rw [if_neg h2]
      by_cases h3 : (ns.length : Int) > 1
      · exact ⟨2, by rw [if_pos h3]; omega, by omega⟩
      · exact ⟨1, by rw [if_neg h3]; rfl, by omega⟩
  rw [← hn] at hrC
  have hoc9 : ∃ w9, oc.data = .cell w9 := ⟨_, hoc⟩
  refine StopAt.go ?_
  refine iter_range (n := n) (σ := Obj) (fun c => [(s1.heap.objs.size + 1, c)]) [] (fun _ => []) ["k", "source", "contours", "pairs", "sides", "fine", "grain", "rule", "turn", "row", "x", "told", "rows", "one", "other"] [s1.heap.objs.size + 1]
    (fun i S c => ∃ w9, c.data = .cell w9) oc rfl hrC (range_small (by omega)) range_size FC NC (fun p hp => by simpa using hp) (fun _ => rfl) (fun _ hp => nomatch hp) (fun _ hp => nomatch hp) hoc9 (by passes_own) ?turn ?done
  (case done =>
    intro c tl u h tk hP hord F' N'
    k_steps)
  intro i c S u h tk own t hi hP hcst hoff F' N' QL hQL
  obtain ⟨wc9, hwc9⟩ := hP
  simp only [List.cons_append, List.nil_append] at N'
  obtain ⟨X0, hS0, hO0, hy0, N0⟩ : ∃ X0, (∀ p ∈ S, p ∈ X0) ∧ (∀ p ∈ own, p ∈ X0) ∧ (∀ p ∈ X0, p.1 ≠ s1.heap.objs.size + 1) ∧ News T9.heap s1.heap.objs.size h ((s1.heap.objs.size + 1, c) :: X0) :=
    ⟨S ++ own, fun p hp => List.mem_append_left _ hp, fun p hp => List.mem_append_right _ hp, fun p hp => hoff p hp _ (.head _), N'⟩
  obtain ⟨m9, hm9, F0⟩ := frAbs F' (x := Str.ofString "script") (v := .ref lsc) rfl
  clear hoff hcst N' F'
  k_steps
  refine StopAt.go ?_
  k_here
  refine' tel_pool hI9 hn63 ⟨by omega, by omega⟩ _ _ _ _ _ _ _ _ _ _ _ _ _ _ _ _ _ _ _ _ _ _ _ _ _ ?kB1 ?kF1 ?kX1 ?kN1 ?kT1 ?kK1 hLsc ?kd1 ?ku1 ?_
  (case kB1 => k_asm)
  (case kF1 => k_asm)
  (case kX1 => k_asm)
  (case kN1 => k_asm)
  (case kT1 => k_asm)
  (case kK1 => first | exact rfl | assumption)
  (case kd1 => ktr_room)
  (case ku1 => ktr_units)
  intro rP tlP hP9 tkP FP NP hlP hoP
  obtain ⟨b, ob, rfl, hbm, hso⟩ := hoP
  have hyb : @LT.lt Nat _ (s1.heap.objs.size + 1) b := hlP _ (.head _) _ hbm
  have hb0 : ∀ p ∈ X0, p.1 ≠ b := fun p hp => Nat.ne_of_lt (hlP p (.tail _ hp) _ hbm)
  replace NP : News _ _ _ ((b, ob) :: (s1.heap.objs.size + 1, c) :: X0) := nwX NP (by
    intro p hp
    rcases List.mem_cons.mp hp with rfl | hp
    · exact List.mem_append_right _ hbm
    · exact List.mem_append_left _ hp)
  clear hlP hbm
  (try dsimp only); (try k_fold)
  k_steps
  refine StopAt.go ?_
  k_here
  refine' TelM.useV (tel_contours hso) ?k1_1 ?k2_1 ?k3_1 ?k4_1 ?k5_1 ?kK_1 ?kd_1 ?ku_1 ?kU_1 ?kR_1 ?_
  (case k1_1 => k_asm)
  (case k2_1 => k_asm)
  (case k3_1 => k_asm)
  (case k4_1 => k_asm)
  (case k5_1 => k_asm)
  (case kK_1 => first | exact rfl | assumption)
  (case kd_1 => ktr_room)
  (case ku_1 => ktr_units)
  (case kU_1 => k_updF)
  (case kR_1 => exact fun _ _ => trivial)
  intro rC oC tlC hC tkC FC NC hlC hoC
  (try simp only [List.cons_append, List.nil_append, List.append_assoc] at NC hoC)
  obtain ⟨nwC, hnwC, hsoC, lC, vC, eC, cts, rfl, hmC, hDC, hc1, hc2, hcts⟩ := hoC
  (try dsimp only); (try k_fold)
  replace hmC := hnwC _ hmC
  replace hDC := DatAll.mono hnwC hDC
  (try simp only [List.cons_append, List.nil_append, List.append_assoc] at hmC hDC)
  obtain ⟨X1, h01, hC1, hb1, hy1, N1⟩ := packN NC hlC hb0 hy0
  replace hmC := in_pack h01 hC1 hsoC hwc9 _ hmC (good_list (refs_of ref_co hDC))
  replace hDC := re_all (re_co (in_pack h01 hC1 hsoC hwc9)) hDC
  have hS1 : ∀ p ∈ S, p ∈ X1 := fun p hp => h01 p (hS0 p hp)
  have hO1 : ∀ p ∈ own, p ∈ X1 := fun p hp => h01 p (hO0 p hp)
  clear hnwC hlC NC h01 hC1 hb0 hy0 hS0 hO0
  have hct5 : ∀ c ∈ cts, 3 ≤ c.1.length ∧ c.1.length ≤ 5 := fun c h => ⟨(hcts c h).1, (hcts c h).2.1⟩
  have hct6 : ∀ c ∈ cts, 2 ≤ c.1.length ∧ c.1.length ≤ 6 := fun c h => by have := hct5 c h; omega
  have hc4 : cts.length ≤ 4 := by omega
  k_steps
  refine StopAt.go ?_
  k_here
  refine' Tel.use (tel_pairs (nn := eC) (vs := vC) hct5 hc2) ?k1_2 ?k2_2 ?k3_2 ?k4_2 ?k5_2 ?kK_2 ?kR_2 ?kd_2 ?ku_2 ?_
  (case k1_2 => k_asm)
  (case k2_2 => k_asm)
  (case k3_2 => k_asm)
  (case k4_2 => k_asm)
  (case k5_2 => k_asm)
  (case kK_2 => first | exact rfl | assumption)
  (case kd_2 => ktr_room)
  (case ku_2 => ktr_units)
  (case kR_2 => exact ⟨.tail _ (.tail _ hmC), DatAll.mono (fun p hp => .tail _ (.tail _ hp)) hDC⟩)
  intro rR tlR hR tkR FR NR hlR hoR
  (try simp only [List.cons_append, List.nil_append, List.append_assoc] at NR hoR)
  obtain ⟨lR, vR, eR, rfl, hmR, hDR⟩ := hoR
  (try dsimp only); (try k_fold)
  obtain ⟨X2, h12, hR2, hb2, hy2, N2⟩ := packN NR hlR hb1 hy1
  replace hmR := in_pack h12 hR2 hsoC hwc9 _ hmR (good_list (refs_of ref_pr hDR))
  replace hDR := re_all (re_pr (in_pack h12 hR2 hsoC hwc9)) hDR
  replace hmC := h12 _ hmC
  replace hDC := DatAll.mono h12 hDC
  have hS2 : ∀ p ∈ S, p ∈ X2 := fun p hp => h12 p (hS1 p hp)
  have hO2 : ∀ p ∈ own, p ∈ X2 := fun p hp => h12 p (hO1 p hp)
  clear hlR NR h12 hR2 hb1 hy1 hS1 hO1
  k_steps
  refine StopAt.go ?_
  k_here
  refine' Tel.use (tel_sides_of (nn := eC) (vs := vC) hct6 hc4) ?k1_3 ?k2_3 ?k3_3 ?k4_3 ?k5_3 ?kK_3 ?kR_3 ?kd_3 ?ku_3 ?_
  (case k1_3 => k_asm)
  (case k2_3 => k_asm)
  (case k3_3 => k_asm)
  (case k4_3 => k_asm)
  (case k5_3 => k_asm)
  (case kK_3 => first | exact rfl | assumption)
  (case kd_3 => ktr_room)
  (case ku_3 => ktr_units)
  (case kR_3 => exact ⟨.tail _ (.tail _ hmC), DatAll.mono (fun p hp => .tail _ (.tail _ hp)) hDC⟩)
  intro rD tlD hD tkD FD ND hlD hoD
  (try simp only [List.cons_append, List.nil_append, List.append_assoc] at ND hoD)
  obtain ⟨lD, vD9, eD, rfl, hmD, hAD⟩ := hoD
  (try dsimp only); (try k_fold)
  obtain ⟨X3, h23, hD3, hb3, hy3, N3⟩ := packN ND hlD hb2 hy2
  replace hmD := in_pack h23 hD3 hsoC hwc9 _ hmD (good_list (refs_side hAD))
  replace hAD := All2.mono (fun _ _ h9 => re_side (in_pack h23 hD3 hsoC hwc9) h9) hAD
  replace hmR := h23 _ hmR
  replace hDR := DatAll.mono h23 hDR
  have hS3 : ∀ p ∈ S, p ∈ X3 := fun p hp => h23 p (hS2 p hp)
  have hO3 : ∀ p ∈ own, p ∈ X3 := fun p hp => h23 p (hO2 p hp)
  clear hlD ND h23 hD3 hb2 hy2 hS2 hO2 hmC hDC
  k_steps
  refine StopAt.go ?_
  k_here
  refine' TelM.useV (tel_one hsoC ?hm1) ?k1_4 ?k2_4 ?k3_4 ?k4_4 ?k5_4 ?kK_4 ?kd_4 ?ku_4 ?kU_4 ?kR_4 ?_
  (case k1_4 => k_asm)
  (case k2_4 => k_asm)
  (case k3_4 => k_asm)
  (case k4_4 => k_asm)
  (case k5_4 => k_asm)
  (case kK_4 => first | exact rfl | assumption)
  (case kd_4 => ktr_room)
  (case ku_4 => ktr_units)
  (case kU_4 => k_updF)
  (case kR_4 => exact fun nw hnw => hnw _ (.head _) (Nat.ne_of_gt (by assumption)))
  (case hm1 => ((simp only [List.length_cons, List.length_nil]); omega))
  intro rM oM tlM hM tkM FM NM hlM hoM
  (try simp only [List.cons_append, List.nil_append, List.append_assoc] at NM hoM)
  clear hlM
  obtain ⟨_, _, hsoM, iM, hiM⟩ := hoM
  obtain ⟨aM, fv, gv, kf, kg, rfl, hmM, hMenu⟩ := menu_pick NM hiM (by
    simp only [List.forall_mem_cons, List.not_mem_nil, false_implies, implies_true, and_true]
    exact ⟨⟨_, _, _, _, _, rfl, by k_mem, by unfold MenuOk; decide⟩, ⟨_, _, _, _, _, rfl, by k_mem, by unfold MenuOk; decide⟩, ⟨_, _, _, _, _, rfl, by k_mem, by unfold MenuOk; decide⟩, ⟨_, _, _, _, _, rfl, by k_mem, by unfold MenuOk; decide⟩, ⟨_, _, _, _, _, rfl, by k_mem, by unfold MenuOk; decide⟩⟩)
  obtain ⟨hMf, hMg, hMs⟩ := hMenu
  (try dsimp only); (try k_fold)
  replace NM : News _ _ _ ((aM, tupOf [.int fv kf, .int gv kg] 0) :: (b, oM) :: (s1.heap.objs.size + 1, c) :: X3) := nwX NM (by
    intro p hp
    rcases List.mem_cons.mp hp with rfl | hp
    · exact hmM
    · simp only [List.mem_cons, List.mem_append] at hp ⊢; grind)
  have hbA : @Ne Nat aM b := by
    rintro rfl
    have e1 := (NM _ (.head _)).1
    have e2 := (NM _ (.tail _ (.head _))).1
    dsimp only at e1 e2
    rw [e1] at e2
    have e3 := Option.some.inj e2
    rw [← e3] at hsoM
    exact good_tup.2 hsoM
  have hyA : @Ne Nat aM (s1.heap.objs.size + 1) := by
    intro e
    have e1 := (NM _ (.head _)).1
    have e2 := (NM _ (.tail _ (.tail _ (.head _)))).1
    dsimp only at e1 e2
    rw [e, e2] at e1
    have e3 := Option.some.inj e1
    rw [e3] at hwc9
    exact good_tup.1 _ hwc9
  clear hmM hiM
  k_steps
  refine StopAt.go ?_
  k_here
  refine' TelM.useV (tel_one hsoM ?hm2) ?k1_5 ?k2_5 ?k3_5 ?k4_5 ?k5_5 ?kK_5 ?kd_5 ?ku_5 ?kU_5 ?kR_5 ?_
  (case k1_5 => k_asm)
  (case k2_5 => k_asm)
  (case k3_5 => k_asm)
  (case k4_5 => k_asm)
  (case k5_5 => k_asm)
  (case kK_5 => first | exact rfl | assumption)
  (case kd_5 => ktr_room)
  (case ku_5 => ktr_units)
  (case kU_5 => k_updF)
  (case kR_5 => exact fun nw hnw => hnw _ (.head _) (Nat.ne_of_gt (by assumption)))
  (case hm2 => ((simp only [List.length_cons, List.length_nil]); omega))
  intro rU oU tlU hU tkU FU NU hlU hoU
  (try simp only [List.cons_append, List.nil_append, List.append_assoc] at NU hoU)
  clear hlU
  obtain ⟨_, _, hsoU, iU, hiU⟩ := hoU
  obtain ⟨nz, tz, rfl⟩ := rule_pick hiU (by
    simp only [List.forall_mem_cons, List.not_mem_nil, false_implies, implies_true, and_true]
    exact ⟨⟨true, _, rfl⟩, ⟨false, _, rfl⟩⟩)
  clear hiU
  (try dsimp only); (try k_fold)
  replace NU : News _ _ _ ((b, oU) :: (s1.heap.objs.size + 1, c) :: X3) := nwX NU (by
    intro p hp; simp only [List.mem_cons, List.mem_append] at hp ⊢; grind)
  clear hbA hyA
  k_steps
  (have D'kw := trivial; have c'kw := trivial; have t1'kw := trivial; have t2'kw := trivial; have h'kw := trivial; have F'kw := trivial; have N'kw := trivial; have l1kw := trivial; rename_i hI1 FI0 NI0 hI2 tkI tI uI vI hrI FI NI hkI; clear D'kw c'kw t1'kw t2'kw h'kw F'kw N'kw l1kw)
  refine StopAt.go ?_
  refine iter_range (n := 2) (σ := Obj × Obj) (fun c => [(b, c.1), (s1.heap.objs.size + 1, c.2)]) X3 (fun _ => []) ["turn", "row", "x", "told", "rows", "one", "other"] [b, s1.heap.objs.size + 1]
    (fun i S c => SrcOk c.1 ∧ ∃ w9, c.2.data = .cell w9) (oU, c) rfl hrI (by decide) (by decide) FI NI (fun p hp => hp) (fun _ => rfl) ?dis2 (fun _ hp => nomatch hp) ⟨hsoU, _, hwc9⟩ (by passes_own) ?turn2 ?done2
  (case dis2 =>
    intro p hp a ha
    rcases List.mem_cons.mp ha with rfl | ha
    · exact hb3 p hp
    · rw [List.mem_singleton.mp ha]; exact hy3 p hp)
  (case done2 =>
    intro c2 tl2 u2 h2 tk2 hP2 hord2 F2 N2
    obtain ⟨ob2, oy2⟩ := c2
    obtain ⟨_, hy2⟩ := hP2
    dsimp only at hy2 F2 N2
    simp only [List.cons_append, List.nil_append, List.append_assoc] at N2
    k_steps
    refine' hQL _ _ (lpost_next oy2 [] ?fr ?nw ?sub ?own ?ord ?ps ?rest ?P)
    (case fr => k_asm)
    (case nw => k_asm)
    (case sub =>
      intro p hp
      have hp1 : p = (s1.heap.objs.size + 1, oy2) ∨ p ∈ S := by simpa using hp
      rcases hp1 with rfl | hp1
      · exact .tail _ (.head _)
      · exact .tail _ (.tail _ (List.mem_append_left _ (hS3 p hp1))))
    (case own => exact fun p hp => .tail _ (.tail _ (List.mem_append_left _ (hO3 p hp))))
    (case ord => exact fun _ _ _ hp => nomatch hp)
    (case ps => ((try dsimp only); (repeat' (first | exact List.forall_mem_nil _ | (refine List.forall_mem_cons.mpr ⟨?_, ?_⟩) | rfl | (with_unfolding_all rfl)))))
    (case rest =>
      intro z9 h8 h9
      subst hm9
      simp only [List.contains_cons, List.contains_nil, Bool.or_false, Bool.or_eq_false_iff, beq_eq_false_iff_ne, ne_eq] at h9
      by_cases hz9 : z9 = Str.ofString "script"
      · subst hz9; simp [frm, kstB]; rfl
      · simp [frm, kstB, h9, hz9])
    (case P => exact hy2))
  intro i2 c2 S2 u2 h2 tk2 own2 t2 hi2 hP2 hcst2 hoff2 F2 N2 QL hQL
  obtain ⟨ob2, oy2⟩ := c2
  obtain ⟨hso2, wy2, hwy2⟩ := hP2
  dsimp only at hso2 hwy2 F2 N2
  simp only [List.cons_append, List.nil_append] at N2
  obtain ⟨X4, hS4, hO4, hb4, hy4, N4⟩ : ∃ X4, (∀ p ∈ S2, p ∈ X4) ∧ (∀ p ∈ own2, p ∈ X4) ∧ (∀ p ∈ X4, p.1 ≠ b) ∧ (∀ p ∈ X4, p.1 ≠ s1.heap.objs.size + 1) ∧ News T9.heap s1.heap.objs.size h2 ((b, ob2) :: (s1.heap.objs.size + 1, oy2) :: X4) :=
    ⟨S2 ++ own2, fun p hp => List.mem_append_left _ hp, fun p hp => List.mem_append_right _ hp, fun p hp => hoff2 p hp _ (.head _), fun p hp => hoff2 p hp _ (.tail _ (.head _)), N2⟩
  replace hmR := hS4 _ (hcst2 _ hmR)
  replace hDR := DatAll.mono (fun p hp => hS4 p (hcst2 p hp)) hDR
  replace hmD := hS4 _ (hcst2 _ hmD)
  replace hAD := All2.mono (fun _ _ h9 => SideIn.mono h9 fun p hp => hS4 p (hcst2 p hp)) hAD
  clear hoff2 hcst2 N2 hb3 hy3 hS3 hO3
  have hst6 : 2 ≤ Int.fdiv gv fv ∧ Int.fdiv gv fv ≤ 6 := by rcases hMs with h | h | h <;> omega
  have htop : 3 ≤ Int.fdiv 14 (Int.fdiv gv fv) + 1 ∧ Int.fdiv 14 (Int.fdiv gv fv) + 1 ≤ 8 := by rcases hMs with h | h | h <;> rw [h] <;> decide
  k_steps
  refine StopAt.go ?_
  k_here
  refine' TelM.useV (tel_takeS hso2 ?hm3) ?k1_6 ?k2_6 ?k3_6 ?k4_6 ?k5_6 ?kK_6 ?kd_6 ?ku_6 ?kU_6 ?kR_6 ?_
  (case k1_6 => k_asm)
  (case k2_6 => k_asm)
  (case k3_6 => k_asm)
  (case k4_6 => k_asm)
  (case k5_6 => k_asm)
  (case kK_6 => first | exact rfl | assumption)
  (case kd_6 => ktr_room)
  (case ku_6 => ktr_units)
  (case kU_6 => k_updF)
  (case kR_6 => exact fun _ _ => trivial)
  (case hm3 => (exact ⟨by omega, by omega⟩))
  intro rK oK tlK hK tkK FK NK hlK hoK
  (try simp only [List.cons_append, List.nil_append, List.append_assoc] at NK hoK)
  obtain ⟨_, _, hsoK, dK, kK, rfl, hdK1, hdK2⟩ := hoK
  (try dsimp only); (try k_fold)
  obtain ⟨X5, h45, _, hb5, hy5, N5⟩ := packN NK hlK hb4 hy4
  have hS5 : ∀ p ∈ S2, p ∈ X5 := fun p hp => h45 p (hS4 p hp)
  have hO5 : ∀ p ∈ own2, p ∈ X5 := fun p hp => h45 p (hO4 p hp)
  replace hmR := h45 _ hmR
  replace hDR := DatAll.mono h45 hDR
  replace hmD := h45 _ hmD
  replace hAD := All2.mono (fun _ _ h9 => SideIn.mono h9 h45) hAD
  clear NK hlK hb4 hy4 hS4 hO4 h45
  have hok : ∀ sd ∈ sidesOf cts, SDok sd := fun sd h => by have := sidesOf_in hcts sd h; unfold SdIn at this; unfold SDok; omega
  have hok' : ∀ sd ∈ sidesOf cts, SDok' sd := fun sd h => by have := sidesOf_in hcts sd h; unfold SdIn at this; unfold SDok'; omega
  have hway : ∀ sd ∈ sidesOf cts, -1 ≤ sd.way ∧ sd.way ≤ 1 := fun sd h => by have := sidesOf_in hcts sd h; unfold SdIn at this; omega
  have hpok : ∀ p ∈ pairsOf cts, PrOk p := fun p h => by have := pairsOf_in hcts p h; unfold PrIn at this; unfold PrOk; omega
  have h64 : (sidesOf cts).length < 64 := by have := sidesOf_len cts (fun c h => (hct6 c h).2); omega
  obtain ⟨hyr, hdr⟩ := row_y hMs hdK1 hdK2
  k_steps
  refine StopAt.go ?_
  k_here
  refine' Tel.use (tel_sample_spans (nn := eD) (vs := vD9) hok hyr hdr hMf hMg hMs hway h64) ?k1_7 ?k2_7 ?k3_7 ?k4_7 ?k5_7 ?kK_7 ?kR_7 ?kd_7 ?ku_7 ?_
  (case k1_7 => k_asm)
  (case k2_7 => k_asm)
  (case k3_7 => k_asm)
  (case k4_7 => k_asm)
  (case k5_7 => k_asm)
  (case kK_7 => first | exact rfl | assumption)
  (case kd_7 => ktr_room)
  (case ku_7 => ktr_units)
  (case kR_7 => exact ⟨.tail _ (.tail _ hmD), All2.mono (fun _ _ h9 => SideIn.mono h9 (fun p hp => .tail _ (.tail _ hp))) hAD⟩)
  intro rV tlV hV tkV FV NV hlV hoV
  (try simp only [List.cons_append, List.nil_append, List.append_assoc] at NV hoV)
  obtain ⟨lV, vV, eV, osV, rfl, hmV, hDV, hpV, hsV⟩ := hoV
  (try dsimp only); (try k_fold)
  obtain ⟨X6, h56, hV6, hb6, hy6, N6⟩ := packN NV hlV hb5 hy5
  replace hmV := in_pack h56 hV6 hsoK hwy2 _ hmV (good_list (refs_of (f := spD) ref_sp hDV))
  replace hDV := re_all (f := spD) (re_sp (in_pack h56 hV6 hsoK hwy2)) hDV
  clear NV hlV hV6 hb5 hy5
  k_steps
  refine StopAt.go ?_
  k_here
  refine' Tel.use (tel_lawSpans (nn := eR) (vs := vR) hpok hyr hdr hMf hMs) ?k1_8 ?k2_8 ?k3_8 ?k4_8 ?k5_8 ?kK_8 ?kR_8 ?kd_8 ?ku_8 ?_
  (case k1_8 => k_asm)
  (case k2_8 => k_asm)
  (case k3_8 => k_asm)
  (case k4_8 => k_asm)
  (case k5_8 => k_asm)
  (case kK_8 => first | exact rfl | assumption)
  (case kd_8 => ktr_room)
  (case ku_8 => ktr_units)
  (case kR_8 => exact ⟨.tail _ (.tail _ (h56 _ hmR)), DatAll.mono (fun p hp => .tail _ (.tail _ (h56 p hp))) hDR⟩)
  intro rW tlW hW tkW FW NW hlW hoW
  (try simp only [List.cons_append, List.nil_append, List.append_assoc] at NW hoW)
  obtain ⟨lW, vW, eW, rfl, hmW, hDW⟩ := hoW
  (try dsimp only); (try k_fold)
  obtain ⟨X7, h67, hW7, hb7, hy7, N7⟩ := packN NW hlW hb6 hy6
  replace hmW := in_pack h67 hW7 hsoK hwy2 _ hmW (good_list (refs_of (f := spD) ref_sp hDW))
  replace hDW := re_all (f := spD) (re_sp (in_pack h67 hW7 hsoK hwy2)) hDW
  clear NW hlW hW7 hb6 hy6
  k_steps
  refine StopAt.go ?_
  k_here
  refine' ne_same (n := eV) (k := eW) ?N9 ?l9 ?e9 hDV hDW ?s9 ?t9 (spans_law hcts hMs hpV hsV) ?u9 ?_
  (case N9 => k_asm)
  (case l9 => exact .tail _ (.tail _ (h67 _ hmV)))
  (case e9 => exact .tail _ (.tail _ hmW))
  (case s9 => exact fun p hp => .tail _ (.tail _ (h67 p hp)))
  (case t9 => exact fun p hp => .tail _ (.tail _ hp))
  (case u9 => ktr_units)
  have h57 : ∀ p ∈ X5, p ∈ X7 := fun p hp => h67 p (h56 p hp)
  have hS7 : ∀ p ∈ S2, p ∈ X7 := fun p hp => h57 p (hS5 p hp)
  have hO7 : ∀ p ∈ own2, p ∈ X7 := fun p hp => h57 p (hO5 p hp)
  replace hmR := h57 _ hmR
  replace hDR := DatAll.mono h57 hDR
  replace hmD := h57 _ hmD
  replace hAD := All2.mono (fun _ _ h9 => SideIn.mono h9 h57) hAD
  clear hDV hDW hpV hsV hmV hmW h56 h67 h57 hS5 hO5
  k_whole
  k_steps
  refine StopAt.go ?_
  k_here
  refine' TelM.useV (tel_takeS hsoK ?hm4) ?k1_9 ?k2_9 ?k3_9 ?k4_9 ?k5_9 ?kK_9 ?kd_9 ?ku_9 ?kU_9 ?kR_9 ?_
  (case k1_9 => k_asm)
  (case k2_9 => k_asm)
  (case k3_9 => k_asm)
  (case k4_9 => k_asm)
  (case k5_9 => k_asm)
  (case kK_9 => first | exact rfl | assumption)
  (case kd_9 => ktr_room)
  (case ku_9 => ktr_units)
  (case kU_9 => k_updF)
  (case kR_9 => exact fun _ _ => trivial)
  (case hm4 => (exact ⟨by omega, by omega⟩))
  intro rJ oJ tlJ hJ tkJ FJ NJ hlJ hoJ
  (try simp only [List.cons_append, List.nil_append, List.append_assoc] at NJ hoJ)
  obtain ⟨_, _, hsoJ, dJ, kJ, rfl, hdJ1, hdJ2⟩ := hoJ
  (try dsimp only); (try k_fold)
  obtain ⟨X8, h78, _, hb8, hy8, N8⟩ := packN NJ hlJ hb7 hy7
  clear NJ hlJ hb7 hy7
  obtain ⟨hxr, hdx⟩ := col_x hMs hdJ1 hdJ2
  k_steps
  refine StopAt.go ?_
  k_here
  refine' Tel.use (tel_sample_place hdx hMf hMg) ?k1_10 ?k2_10 ?k3_10 ?k4_10 ?k5_10 ?kK_10 ?kR_10 ?kd_10 ?ku_10 ?_
  (case k1_10 => k_asm)
  (case k2_10 => k_asm)
  (case k3_10 => k_asm)
  (case k4_10 => k_asm)
  (case k5_10 => k_asm)
  (case kK_10 => first | exact rfl | assumption)
  (case kd_10 => ktr_room)
  (case ku_10 => ktr_units)
  (case kR_10 => exact trivial)
  intro rG tlG hG tkG FG NG hlG hoG
  (try simp only [List.cons_append, List.nil_append, List.append_assoc] at NG hoG)
  obtain ⟨kG, rfl⟩ := hoG
  (try dsimp only); (try k_fold)
  obtain ⟨X9, h89, _, hb9, hy9, N9⟩ := packN NG hlG hb8 hy8
  clear NG hlG hb8 hy8
  k_steps
  refine StopAt.go ?_
  k_here
  refine' Tel.use (tel_sample_place hdr hMf hMg) ?k1_11 ?k2_11 ?k3_11 ?k4_11 ?k5_11 ?kK_11 ?kR_11 ?kd_11 ?ku_11 ?_
  (case k1_11 => k_asm)
  (case k2_11 => k_asm)
  (case k3_11 => k_asm)
  (case k4_11 => k_asm)
  (case k5_11 => k_asm)
  (case kK_11 => first | exact rfl | assumption)
  (case kd_11 => ktr_room)
  (case ku_11 => ktr_units)
  (case kR_11 => exact trivial)
  intro rH tlH hH tkH FH NH hlH hoH
  (try simp only [List.cons_append, List.nil_append, List.append_assoc] at NH hoH)
  obtain ⟨kH, rfl⟩ := hoH
  (try dsimp only); (try k_fold)
  obtain ⟨XA, h9A, _, hbA, hyA, NA⟩ := packN NH hlH hb9 hy9
  clear NH hlH hb9 hy9
  k_steps
  (have D'kw := trivial; have c'kw := trivial; have t1'kw := trivial; have t2'kw := trivial; have h'kw := trivial; have F'kw := trivial; have N'kw := trivial; have l1kw := trivial; rename_i oyN FN9 NN9 hoyN; clear D'kw c'kw t1'kw t2'kw h'kw F'kw N'kw l1kw)
  obtain ⟨oy9, XB, hoy9, hAB, NB9⟩ := packD hoyN NN9
  have hSB : ∀ p ∈ S2, p ∈ XB := fun p hp => hAB p (h9A p (h89 p (h78 p (hS7 p hp))))
  have hOB : ∀ p ∈ own2, p ∈ XB := fun p hp => hAB p (h9A p (h89 p (h78 p (hO7 p hp))))
  replace hmR := hAB _ (h9A _ (h89 _ (h78 _ hmR)))
  replace hDR := DatAll.mono (fun p hp => hAB p (h9A p (h89 p (h78 p hp)))) hDR
  replace hmD := hAB _ (h9A _ (h89 _ (h78 _ hmD)))
  replace hAD := All2.mono (fun _ _ h9 => SideIn.mono h9 fun p hp => hAB p (h9A p (h89 p (h78 p hp)))) hAD
  clear NN9 hAB h9A h89 h78 hS7 hO7 hbA hyA
  refine StopAt.go ?_
  k_here
  refine' Tel.use (tel_winding_at (nn := eD) (vs := vD9) hok' hyr h64) ?k1_12 ?k2_12 ?k3_12 ?k4_12 ?k5_12 ?kK_12 ?kR_12 ?kd_12 ?ku_12 ?_
  (case k1_12 => k_asm)
  (case k2_12 => k_asm)
  (case k3_12 => k_asm)
  (case k4_12 => k_asm)
  (case k5_12 => k_asm)
  (case kK_12 => first | exact rfl | assumption)
  (case kd_12 => ktr_room)
  (case ku_12 => ktr_units)
  (case kR_12 => exact ⟨.tail _ (.tail _ hmD), All2.mono (fun _ _ h9 => SideIn.mono h9 (fun p hp => .tail _ (.tail _ hp))) hAD⟩)
  intro rX tlX hX tkX FX NX hlX hoX
  (try simp only [List.cons_append, List.nil_append, List.append_assoc] at NX hoX)
  clear hlX
  obtain ⟨kX, rfl⟩ := hoX
  (try dsimp only); (try k_fold)
  obtain ⟨XC, hBC, _, NC9⟩ := packE NX
  clear NX
  k_steps
  refine StopAt.go ?_
  k_here
  refine' Tel.use (tel_lawWindingW (nn := eR) (vs := vR) hpok hxr ⟨Int.le_trans (by decide) hyr.1, Int.le_trans hyr.2 (by decide)⟩ (winding_law _ _ cts).symm) ?k1_13 ?k2_13 ?k3_13 ?k4_13 ?k5_13 ?kK_13 ?kR_13 ?kd_13 ?ku_13 ?_
  (case k1_13 => k_asm)
  (case k2_13 => k_asm)
  (case k3_13 => k_asm)
  (case k4_13 => k_asm)
  (case k5_13 => k_asm)
  (case kK_13 => first | exact rfl | assumption)
  (case kd_13 => ktr_room)
  (case ku_13 => ktr_units)
  (case kR_13 => exact ⟨.tail _ (.tail _ (hBC _ hmR)), DatAll.mono (fun p hp => .tail _ (.tail _ (hBC p hp))) hDR⟩)
  intro rZ tlZ hZ tkZ FZ NZ hlZ hoZ
  (try simp only [List.cons_append, List.nil_append, List.append_assoc] at NZ hoZ)
  clear hlZ
  obtain ⟨kZ, rfl⟩ := hoZ
  (try dsimp only); (try k_fold)
  obtain ⟨XD, hCD, _, ND9⟩ := packE NZ
  clear NZ
  k_steps
  refine StopAt.go ?_
  k_here
  refine ne_int_same rfl ?_
  k_whole
  k_steps
  refine StopAt.go ?_
  k_here
  refine' Tel.use (tel_crossings (nn := eD) (vs := vD9) hok' hyr h64) ?k1_14 ?k2_14 ?k3_14 ?k4_14 ?k5_14 ?kK_14 ?kR_14 ?kd_14 ?ku_14 ?_
  (case k1_14 => k_asm)
  (case k2_14 => k_asm)
  (case k3_14 => k_asm)
  (case k4_14 => k_asm)
  (case k5_14 => k_asm)
  (case kK_14 => first | exact rfl | assumption)
  (case kd_14 => ktr_room)
  (case ku_14 => ktr_units)
  (case kR_14 => exact ⟨.tail _ (.tail _ (hCD _ (hBC _ hmD))), All2.mono (fun _ _ h9 => SideIn.mono h9 (fun p hp => .tail _ (.tail _ (hCD p (hBC p hp))))) hAD⟩)
  intro rT tlT hT tkT FT NT hlT hoT
  (try simp only [List.cons_append, List.nil_append, List.append_assoc] at NT hoT)
  clear hlT
  obtain ⟨lT, vT, eT, crs, rfl, hmT, hDT, hpT, hsT⟩ := hoT
  (try dsimp only); (try k_fold)
  obtain ⟨XE, hDE, hTE, NE9⟩ := packE NT
  have hmT9 := in_pack hDE hTE hsoJ hoy9 _ hmT (good_list (refs_of ref_cr hDT))
  have hDT9 := re_all (re_cr (in_pack hDE hTE hsoJ hoy9)) hDT
  have hS9 : ∀ p ∈ S2, p ∈ XE := fun p hp => hDE p (hCD p (hBC p (hSB p hp)))
  have hO9 : ∀ p ∈ own2, p ∈ XE := fun p hp => hDE p (hCD p (hBC p (hOB p hp)))
  have hmR9 := hDE _ (hCD _ (hBC _ hmR))
  have hDR9 := DatAll.mono (fun p hp => hDE p (hCD p (hBC p hp))) hDR
  clear NT hmT hDT hDE hTE hCD hBC hSB hOB hmR hDR hmD hAD
  k_steps
  (have D'kw := trivial; have c'kw := trivial; have t1'kw := trivial; have t2'kw := trivial; have h'kw := trivial; have F'kw := trivial; have N'kw := trivial; have l1kw := trivial; rename_i hA9 FA9 NA9; clear D'kw c'kw t1'kw t2'kw h'kw F'kw N'kw l1kw)
  have hprl : (pairsOf cts).length ≤ 24 := by have := pairsOf_len cts (fun c h => (hct6 c h).2); omega
  have hvRl : vR.length = (pairsOf cts).length := by rw [DatAll.length hDR9, List.length_map]
  have hvTl : vT.length = crs.length := by rw [DatAll.length hDT9, List.length_map]
  have hcl9 : crs.length = ((pairsOf cts).filter (rowB ((dK - 1) * Int.fdiv gv fv + Int.fdiv (Int.fdiv gv fv) 2))).length := by rw [hpT.length_eq, rows_law]
  have hcl24 : crs.length ≤ 24 := by rw [hcl9]; exact Nat.le_trans (List.length_filter_le _ _) hprl
  refine StopAt.go ?_
  refine LCp.SrcLP.ledger (its := vR.toArray) (k := eR) (news := (lT, PySem.W.listOf vT.toArray eT) :: (b, oJ) :: (s1.heap.objs.size + 1, oy9) :: XE) rfl FA9 (nwX NA9 ?sub1) ?mem1 ?size1 ?_
  (case sub1 => (intro p hp; rcases List.mem_cons.mp hp with rfl | hp; exact .tail _ (.tail _ hmT9); exact hp))
  (case mem1 => exact .tail _ (.tail _ (.tail _ hmR9)))
  (case size1 => (rw [sizeLine_eq, List.size_toArray]; omega))
  intro g1
  refine comp_invP (fun i ys nw => ∃ tl9, nw = (lT, PySem.W.listOf vT.toArray eT) :: (b, oJ) :: (s1.heap.objs.size + 1, oy9) :: (XE ++ tl9) ∧ All2 (RowIn tl9) ys ((pairsOf cts).take i)) ⟨[], by simp only [List.append_nil], .nil⟩ ?stp1 ?dn1
  (case stp1 =>
    intro i9 ys nw v hi9 hI9 hv9
    obtain ⟨tl9, rfl, hA9⟩ := hI9
    obtain ⟨p9, hp9, hIp⟩ := dat_of hDR9 (i := i9) (v := v) (by simpa using hv9)
    obtain ⟨a9, n9, v1, v2, rfl, hm9, hs1, hs2⟩ := pr_inv hIp
    obtain ⟨a1, n1, t1, t2, rfl, hm1⟩ := sp_inv hs1
    obtain ⟨a2, n2, t3, t4, rfl, hm2⟩ := sp_inv hs2
    refine ⟨a9, tupOf [.ref a1, .ref a2] n9, .ref a1, .ref a2, n9, rfl, ?memp, rfl, rfl, ?_⟩
    (case memp => exact .tail _ (.tail _ (.tail _ (List.mem_append_left _ hm9))))
    intro I oI C oC D m₂ h3 tk3 E' hC9 hx1 hx2 F3 N3 off3 ne3
    simp only [List.forall_mem_cons, List.forall_mem_append] at off3
    obtain ⟨ofT, ofb, ofy, ofX, of9⟩ := off3
    replace N3 : News _ _ _ ((a1, tupOf [.int p9.1.1 t1, .int p9.1.2 t2] n1) :: (a2, tupOf [.int p9.2.1 t3, .int p9.2.2 t4] n2) :: (I, oI) :: (C, oC) :: (D, LCg.lst ys) :: (lT, PySem.W.listOf vT.toArray eT) :: (b, oJ) :: (s1.heap.objs.size + 1, oy9) :: (XE ++ tl9)) := nwX N3 (by
      intro p hp; simp only [List.mem_cons, List.mem_append] at hp ⊢; grind)
    k_steps
    (have D'kw := trivial; have c'kw := trivial; have t1'kw := trivial; have t2'kw := trivial; have h'kw := trivial; have F'kw := trivial; have N'kw := trivial; have l1kw := trivial; rename_i D8 c8 u1 u2 h8 F8 N8 lq0 lqa1 lqa2 lqI lqC lqD lqT lqb lqy lqX lq9; clear D'kw c'kw t1'kw t2'kw h'kw F'kw N'kw l1kw)
    replace N8 : News _ _ _ ((D8, PySem.W.listOf [Value.int (rLo p9) u1, .int (rHi p9) u2].toArray c8) :: (I, oI) :: (C, oC) :: (D, LCg.lst ys) :: (lT, PySem.W.listOf vT.toArray eT) :: (b, oJ) :: (s1.heap.objs.size + 1, oy9) :: (XE ++ tl9)) := nwX N8 (by
      intro p hp
      rcases List.mem_cons.mp hp with rfl | hp
      · exact .head _
      · exact .tail _ (.tail _ (.tail _ (.tail _ hp))))
    refine StopAt.go ?_
    refine LCg.CompEnd.intro F8 N8 ((lT, PySem.W.listOf vT.toArray eT) :: (b, oJ) :: (s1.heap.objs.size + 1, oy9) :: (XE ++ (tl9 ++ [(D8, PySem.W.listOf [Value.int (rLo p9) u1, .int (rHi p9) u2].toArray c8)]))) ?sub (LCg.Off3.of ?off) (.inr ⟨_, .tail _ (.tail _ (.tail _ (List.mem_append_left _ hmR9))), rfl, _, rfl⟩)
      ⟨tl9 ++ [(D8, PySem.W.listOf [Value.int (rLo p9) u1, .int (rHi p9) u2].toArray c8)], rfl, ?all⟩
    (case sub => intro p hp; simp only [List.mem_cons, List.mem_append, List.not_mem_nil, or_false] at hp ⊢; grind)
    (case off =>
      simp only [List.forall_mem_cons, List.forall_mem_append, List.not_mem_nil, false_implies, implies_true, and_true]
      exact ⟨ofT, ofb, ofy, ofX, of9, Nat.ne_of_gt lqI, Nat.ne_of_gt lqC, Nat.ne_of_gt lqD⟩)
    (case all =>
      rw [List.take_add_one, hp9, Option.toList_some]
      exact All2.append (All2.mono (fun _ _ h => h.mono (fun _ hq => List.mem_append_left _ hq)) hA9) (.cons ⟨D8, c8, u1, u2, rfl, List.mem_append_right _ (.head _)⟩ .nil)))
  intro ys nw hI
  obtain ⟨tl9, rfl, hA9⟩ := hI
  rw [List.size_toArray, hvRl, List.take_length] at hA9
  k_steps
  (have D'kw := trivial; have c'kw := trivial; have t1'kw := trivial; have t2'kw := trivial; have h'kw := trivial; have F'kw := trivial; have N'kw := trivial; have l1kw := trivial; rename_i D7 h7 tk7 F7 N7 oD7; clear D'kw c'kw t1'kw t2'kw h'kw F'kw N'kw l1kw)
  have hys : ys.length = (pairsOf cts).length := hA9.length
  obtain ⟨yq, hyq⟩ : ∃ yq : Int, yq = ((dK - 1) * Int.fdiv gv fv + Int.fdiv (Int.fdiv gv fv) 2) := ⟨_, rfl⟩
  rw [← hyq] at hoy9 hcl9
  refine StopAt.go ?_
  refine LCt.CompSrcT.ledger (its := ys.toArray) (news := (D7, LCg.lst ys) :: (lT, PySem.W.listOf vT.toArray eT) :: (b, oJ) :: (s1.heap.objs.size + 1, oy9) :: (XE ++ tl9)) rfl F7 N7 (.head _) ?size2 ?_
  (case size2 => (rw [sizeLine_eq, List.size_toArray]; omega))
  intro g2
  refine comp_invT (fun i zs nw => nw = (D7, LCg.lst ys) :: (lT, PySem.W.listOf vT.toArray eT) :: (b, oJ) :: (s1.heap.objs.size + 1, oy9) :: (XE ++ tl9) ∧ zs.length = (((pairsOf cts).take i).filter (rowB yq)).length) ⟨rfl, rfl⟩ ?stp2 ?dn2
  (case stp2 =>
    intro i8 zs nw v I oI C oC D m₂ h3 tk3 E' hi8 hI8 hv8 hC8 hx8 F3 N3 off3 ne3
    obtain ⟨rfl, hz8⟩ := hI8
    obtain ⟨p8, hp8, l8, c8, u1, u2, rfl, hm8⟩ := hA9.get (i := i8) (a := v) (by simpa using hv8)
    have hoff3 := off3
    simp only [List.forall_mem_cons, List.forall_mem_append] at off3
    obtain ⟨ofD, ofT, ofb, ofy, ofX, of9⟩ := off3
    replace N3 : News _ _ _ ((l8, PySem.W.listOf [Value.int (rLo p8) u1, .int (rHi p8) u2].toArray c8) :: (I, oI) :: (C, oC) :: (D, LCg.lst zs) :: (D7, LCg.lst ys) :: (lT, PySem.W.listOf vT.toArray eT) :: (b, oJ) :: (s1.heap.objs.size + 1, oy9) :: (XE ++ tl9)) := nwX N3 (by
      intro p hp; simp only [List.mem_cons, List.mem_append] at hp ⊢; grind)
    have hlz : ∀ z : Nat, z = (((pairsOf cts).take i8).filter (rowB yq)).length + (if rowB yq p8 then 1 else 0) → z = (((pairsOf cts).take (i8 + 1)).filter (rowB yq)).length := by
      intro z hz
      rw [List.take_add_one, hp8, Option.toList_some, List.filter_append, List.length_append, hz]
      cases hrb : rowB yq p8 <;> simp [hrb]
    k_steps
    all_goals
      refine StopAt.go ?_
      refine LCg.CompEnd.intro (by k_asm) (by k_asm) ((D7, LCg.lst ys) :: (lT, PySem.W.listOf vT.toArray eT) :: (b, oJ) :: (s1.heap.objs.size + 1, oy9) :: (XE ++ tl9)) (by intro p hp; simp only [List.mem_cons, List.mem_append] at hp ⊢; grind) (LCg.Off3.of hoff3) (.inr ⟨_, .head _, rfl, _, rfl⟩) ⟨rfl, hlz _ ?_⟩
      rw [rowB_eq]
      first
        | (rw [if_pos (decide_eq_true ⟨by assumption, by assumption⟩), List.length_append, hz8]; rfl)
        | (rw [if_neg (by rw [decide_eq_true_eq]; omega), hz8]; rfl))
  intro zs nw hI8
  obtain ⟨rfl, hz8⟩ := hI8
  rw [List.size_toArray, hys, List.take_length] at hz8
  have hzl : zs.length ≤ 24 := by omega
  k_steps
  refine StopAt.go ?_
  k_here
  refine ne_int_same ?e9 ?_
  (case e9 => omega)
  k_whole
  k_steps
  (have D'kw := trivial; have c'kw := trivial; have t1'kw := trivial; have t2'kw := trivial; have h'kw := trivial; have F'kw := trivial; have N'kw := trivial; have l1kw := trivial; rename_i D6 h6 tk6 o6 D5 h5 F5 N5 lw1 lw2 lw3 lw4 lw5 lw6 lw7; clear D'kw c'kw t1'kw t2'kw h'kw F'kw N'kw l1kw)
  have hden : ∀ cr ∈ crs, 0 ≤ cr.2.1 ∧ cr.2.1 < 1000000 := fun cr hc => by have := crsOf_den hok' cr (hpT.mem_iff.mp hc); omega
  refine StopAt.go ?_
  refine iter_zip (xs := vT) (ys := vT.drop 1) (n1 := eT) (n2 := 0) ((D5, PySem.W.listOf (vT.drop 1).toArray 0) :: (lT, PySem.W.listOf vT.toArray eT) :: (b, oJ) :: (s1.heap.objs.size + 1, oy9) :: (XE ++ tl9)) ["one", "other"] rfl (.tail _ (.head _)) (.head _) F5 N5 ?sub3 (by passes_own) ?turn3 ?done3
  (case sub3 => (intro p hp; simp only [List.mem_cons, List.mem_append] at hp ⊢; grind))
  (case done3 =>
    intro tl3 u3 h3 tk3 F3 N3
    k_steps
    refine' hQL _ _ (lpost_next (oJ, oy9) [] ?fr ?nw ?sub ?own ?ord ?ps ?rest ?P)
    (case fr => k_asm)
    (case nw => k_asm)
    (case sub =>
      intro p hp
      have hp1 : p = (b, oJ) ∨ p = (s1.heap.objs.size + 1, oy9) ∨ p ∈ S2 := by simpa using hp
      rcases hp1 with rfl | rfl | hp1
      · simp
      · simp
      · have := hS9 p hp1
        simp only [List.mem_cons, List.mem_append, List.cons_append]; grind)
    (case own =>
      intro p hp1
      have := hO9 p hp1
      simp only [List.mem_cons, List.mem_append, List.cons_append]; grind)
    (case ord => exact fun _ _ _ hp => nomatch hp)
    (case ps => ((try dsimp only); (repeat' (first | exact List.forall_mem_nil _ | (refine List.forall_mem_cons.mpr ⟨?_, ?_⟩) | rfl | (with_unfolding_all rfl)))))
    (case rest => (intro z9 h8 h9; (try simp only [List.forall_mem_cons, List.not_mem_nil, false_implies, implies_true, and_true, ne_eq] at h8); simp only [List.contains_cons, List.contains_nil, Bool.or_false, Bool.or_eq_false_iff, beq_eq_false_iff_ne, ne_eq] at h9; simp [frm, kstB, h8, h9]))
    (case P => exact ⟨hsoJ, _, hoy9⟩))
  intro i7 v v2 S3 u3 h3 tk3 own3 T3 hv7 hw7 hT3 hcst3 F3 N3 QL hQL
  have hw8 : vT[1 + i7]? = some v2 := by rw [← List.getElem?_drop]; exact hw7
  obtain ⟨c7, hc7, hI7⟩ := dat_of hDT9 hv7
  obtain ⟨d7, hd7, hJ7⟩ := dat_of hDT9 hw8
  have hle7 : leC c7 d7 := by
    obtain ⟨h71, rfl⟩ := List.getElem?_eq_some_iff.mp hc7
    obtain ⟨h72, rfl⟩ := List.getElem?_eq_some_iff.mp hd7
    exact List.pairwise_iff_getElem.mp hsT _ _ h71 h72 (by omega)
  unfold leC at hle7
  have hdc := hden c7 (List.mem_of_getElem? hc7)
  have hdd := hden d7 (List.mem_of_getElem? hd7)
  obtain ⟨a71, b71, n71, k71, t71, t72, t73, rfl, m71, m72⟩ := cr_inv hI7
  obtain ⟨a81, b81, n81, k81, t81, t82, t83, rfl, m81, m82⟩ := cr_inv hJ7
  have hX3 : ∀ p ∈ XE, p ∈ S3 := fun p hp => hcst3 p (by simp only [List.mem_cons, List.mem_append]; grind)
  replace m71 := hX3 _ m71
  replace m72 := hX3 _ m72
  replace m81 := hX3 _ m81
  replace m82 := hX3 _ m82
  replace N3 : News _ _ _ ((a71, tupOf [.ref b71, .int c7.2.2 t73] n71) :: (b71, tupOf [.int c7.1 t71, .int c7.2.1 t72] k71) :: (a81, tupOf [.ref b81, .int d7.2.2 t83] n81) :: (b81, tupOf [.int d7.1 t81, .int d7.2.1 t82] k81) :: (S3 ++ own3)) := nwX N3 (by
    intro p hp; simp only [List.mem_cons, List.mem_append] at hp ⊢; grind)
  k_steps
  (refine' hQL _ _ (lpost_next (()) ([]) ?fr15 ?nw15 ?sub15 ?own15 ?ord15 ?ps15 ?rest15 ?P15); (case fr15 => k_asm); (case nw15 => k_asm); (case sub15 => ((try dsimp only); (repeat' (first | (refine List.forall_mem_append.mpr ⟨?_, ?_⟩) | (refine List.forall_mem_cons.mpr ⟨?_, ?_⟩) | exact List.forall_mem_nil _ | exact (fun p9 hp9 => by simp only [List.mem_append, List.mem_cons, hp9, true_or, or_true]) | k_mem)))); (case own15 => ((try dsimp only); (repeat' (first | (refine List.forall_mem_append.mpr ⟨?_, ?_⟩) | (refine List.forall_mem_cons.mpr ⟨?_, ?_⟩) | exact List.forall_mem_nil _ | exact (fun p9 hp9 => by simp only [List.mem_append, List.mem_cons, hp9, true_or, or_true]) | k_mem)))); (case ord15 => ((try dsimp only); (try simp only [List.forall_mem_cons, List.forall_mem_append, List.cons_append, List.nil_append, List.not_mem_nil, false_implies, implies_true, and_true, forall_and, imp_and]); (repeat' (apply And.intro)); all_goals (first | assumption | (refine ltN ?_; omega) | exact (fun _ _ => List.forall_mem_nil _)))); (case ps15 => ((try dsimp only); (repeat' (first | exact List.forall_mem_nil _ | (refine List.forall_mem_cons.mpr ⟨?_, ?_⟩) | rfl | (with_unfolding_all rfl))))); (case rest15 => (intro z9 h8 h9; (try simp only [List.forall_mem_cons, List.not_mem_nil, false_implies, implies_true, and_true, ne_eq] at h8); simp only [List.contains_cons, List.contains_nil, Bool.or_false, Bool.or_eq_false_iff, beq_eq_false_iff_ne, ne_eq] at h9; simp [frm, kstB, h8, h9])); (case P15 => (trivial)))
end
end Mine
theorem PySem.Challenge.cw_nu0008_01_holds : PySem.Challenge.rw_nu0008_01.Holds :=
  Mine.lawT
