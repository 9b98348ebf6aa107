import PyProof.Rows.All
import Wide.All
import OpenK.AllK
import Wide.FinOn
import Lean
import PySem.Challenge.RW_np0194_01
set_option Elab.async false
set_option maxRecDepth 100000
set_option maxHeartbeats 4000000
set_option pp.maxSteps 300
set_option linter.all false

section
open PySem PySem.W PySem.Calls PyProof.Rows
namespace Mine
noncomputable abbrev PW : Program := PySem.Challenge.pw_np0194_01
noncomputable def fdOf : Stmt → Arguments × List Stmt × Scope
  | .FunctionDef (args := a) (body := b) (scope := s) .. => (a, b, s)
  | _ => (⟨[], [], none, [], [], none, []⟩, [], ⟨.function, [], false, false, []⟩)
noncomputable def cbOf : Stmt → List Stmt
  | .ClassDef (body := b) .. => b
  | _ => []
noncomputable def stAt (l : List Stmt) (n : Nat) : Stmt := l.getD n (.Pass ⟨0, 0, 0, 0⟩)
noncomputable def fd_0 : Arguments × List Stmt × Scope := fdOf (stAt PW.main.body 0)
noncomputable def fd_2_0 : Arguments × List Stmt × Scope := fdOf (stAt (cbOf (stAt PW.main.body 2)) 0)
noncomputable def fd_5_0 : Arguments × List Stmt × Scope := fdOf (stAt (cbOf (stAt PW.main.body 5)) 0)
noncomputable def fd_5_1 : Arguments × List Stmt × Scope := fdOf (stAt (cbOf (stAt PW.main.body 5)) 1)
noncomputable def fd_5_2 : Arguments × List Stmt × Scope := fdOf (stAt (cbOf (stAt PW.main.body 5)) 2)
noncomputable def fd_5_3 : Arguments × List Stmt × Scope := fdOf (stAt (cbOf (stAt PW.main.body 5)) 3)
noncomputable def fd_5_4 : Arguments × List Stmt × Scope := fdOf (stAt (cbOf (stAt PW.main.body 5)) 4)
noncomputable def fd_5_5 : Arguments × List Stmt × Scope := fdOf (stAt (cbOf (stAt PW.main.body 5)) 5)
noncomputable def fd_5_6 : Arguments × List Stmt × Scope := fdOf (stAt (cbOf (stAt PW.main.body 5)) 6)
noncomputable def fd_5_7 : Arguments × List Stmt × Scope := fdOf (stAt (cbOf (stAt PW.main.body 5)) 7)
noncomputable def fd_5_8 : Arguments × List Stmt × Scope := fdOf (stAt (cbOf (stAt PW.main.body 5)) 8)
noncomputable def fd_5_9 : Arguments × List Stmt × Scope := fdOf (stAt (cbOf (stAt PW.main.body 5)) 9)
noncomputable def fd_5_10 : Arguments × List Stmt × Scope := fdOf (stAt (cbOf (stAt PW.main.body 5)) 10)
noncomputable def fd_5_11 : Arguments × List Stmt × Scope := fdOf (stAt (cbOf (stAt PW.main.body 5)) 11)
noncomputable def fd_5_12 : Arguments × List Stmt × Scope := fdOf (stAt (cbOf (stAt PW.main.body 5)) 12)
noncomputable def fd_5_13 : Arguments × List Stmt × Scope := fdOf (stAt (cbOf (stAt PW.main.body 5)) 13)
noncomputable def fd_5_14 : Arguments × List Stmt × Scope := fdOf (stAt (cbOf (stAt PW.main.body 5)) 14)
noncomputable def fd_5_15 : Arguments × List Stmt × Scope := fdOf (stAt (cbOf (stAt PW.main.body 5)) 15)
noncomputable def fd_5_16 : Arguments × List Stmt × Scope := fdOf (stAt (cbOf (stAt PW.main.body 5)) 16)
noncomputable def fd_5_17 : Arguments × List Stmt × Scope := fdOf (stAt (cbOf (stAt PW.main.body 5)) 17)
noncomputable def fd_7_0 : Arguments × List Stmt × Scope := fdOf (stAt (cbOf (stAt PW.main.body 7)) 0)
noncomputable def fd_7_1 : Arguments × List Stmt × Scope := fdOf (stAt (cbOf (stAt PW.main.body 7)) 1)
noncomputable def fd_7_2 : Arguments × List Stmt × Scope := fdOf (stAt (cbOf (stAt PW.main.body 7)) 2)
noncomputable def fd_7_3 : Arguments × List Stmt × Scope := fdOf (stAt (cbOf (stAt PW.main.body 7)) 3)
noncomputable def fd_7_4 : Arguments × List Stmt × Scope := fdOf (stAt (cbOf (stAt PW.main.body 7)) 4)
noncomputable def fd_7_5 : Arguments × List Stmt × Scope := fdOf (stAt (cbOf (stAt PW.main.body 7)) 5)
noncomputable def fd_7_6 : Arguments × List Stmt × Scope := fdOf (stAt (cbOf (stAt PW.main.body 7)) 6)
noncomputable def fd_7_7 : Arguments × List Stmt × Scope := fdOf (stAt (cbOf (stAt PW.main.body 7)) 7)
noncomputable def fd_7_8 : Arguments × List Stmt × Scope := fdOf (stAt (cbOf (stAt PW.main.body 7)) 8)
noncomputable def fd_7_9 : Arguments × List Stmt × Scope := fdOf (stAt (cbOf (stAt PW.main.body 7)) 9)
noncomputable def fd_7_10 : Arguments × List Stmt × Scope := fdOf (stAt (cbOf (stAt PW.main.body 7)) 10)
noncomputable def fd_7_11 : Arguments × List Stmt × Scope := fdOf (stAt (cbOf (stAt PW.main.body 7)) 11)
noncomputable def fd_7_12 : Arguments × List Stmt × Scope := fdOf (stAt (cbOf (stAt PW.main.body 7)) 12)
noncomputable def fd_9 : Arguments × List Stmt × Scope := fdOf (stAt PW.main.body 9)
noncomputable def fd_10 : Arguments × List Stmt × Scope := fdOf (stAt PW.main.body 10)
noncomputable def fd_11 : Arguments × List Stmt × Scope := fdOf (stAt PW.main.body 11)
noncomputable def fd_12 : Arguments × List Stmt × Scope := fdOf (stAt PW.main.body 12)
noncomputable def fd_13 : Arguments × List Stmt × Scope := fdOf (stAt PW.main.body 13)
noncomputable def fd_14 : Arguments × List Stmt × Scope := fdOf (stAt PW.main.body 14)
noncomputable def fd_15 : Arguments × List Stmt × Scope := fdOf (stAt PW.main.body 15)
noncomputable def fd_16 : Arguments × List Stmt × Scope := fdOf (stAt PW.main.body 16)
noncomputable def fd_17 : Arguments × List Stmt × Scope := fdOf (stAt PW.main.body 17)
noncomputable def fd_18 : Arguments × List Stmt × Scope := fdOf (stAt PW.main.body 18)
noncomputable def KH : Params → Frag := fun P =>
(nat_lit 2, { cls := Value.none, data := Data.dict #[{ hash := PyData.keyHash P (Str.ofString "type.__subclasses__.Exception.0"), key := Value.str (Str.ofString "type.__subclasses__.Exception.0") 221, val := Value.int 38 0 }, { hash := PyData.keyHash P (Str.ofString "type.__subclasses__.Exception.n"), key := Value.str (Str.ofString "type.__subclasses__.Exception.n") 222, val := Value.int 1 0 }] 2 }) ::
  (nat_lit 3, { cls := Value.type "dict", data := Data.dict #[{ hash := PyData.keyHash P (Str.ofString "__name__"), key := Value.str (Str.ofString "__name__") 165, val := Value.str (Str.ofString "law_np0194_01") 570 }, { hash := PyData.keyHash P (Str.ofString "__doc__"), key := Value.str (Str.ofString "__doc__") 166, val := Value.none }, { hash := PyData.keyHash P (Str.ofString "__package__"), key := Value.str (Str.ofString "__package__") 167, val := Value.none }, { hash := PyData.keyHash P (Str.ofString "__loader__"), key := Value.str (Str.ofString "__loader__") 168, val := Value.builtin "__main__.__loader__#opaque" }, { hash := PyData.keyHash P (Str.ofString "__spec__"), key := Value.str (Str.ofString "__spec__") 169, val := Value.none }, { hash := PyData.keyHash P (Str.ofString "__annotations__"), key := Value.str (Str.ofString "__annotations__") 170, val := Value.ref 6 }, { hash := PyData.keyHash P (Str.ofString "__builtins__"), key := Value.str (Str.ofString "__builtins__") 171, val := Value.ref 4 }, { hash := PyData.keyHash P (Str.ofString "__file__"), key := Value.str (Str.ofString "__file__") 173, val := Value.str (Str.ofString "/claim/cut.py") 172 }, { hash := PyData.keyHash P (Str.ofString "__cached__"), key := Value.str (Str.ofString "__cached__") 174, val := Value.none }, { hash := PyData.keyHash P (Str.ofString "_wall"), key := Value.str (Str.ofString "_wall") 193, val := Value.ref 21 }, { hash := PyData.keyHash P (Str.ofString "PoolFault"), key := Value.str (Str.ofString "PoolFault") 224, val := Value.ref 38 }, { hash := PyData.keyHash P (Str.ofString "Misused"), key := Value.str (Str.ofString "Misused") 240, val := Value.ref 51 }, { hash := PyData.keyHash P (Str.ofString "Ranges"), key := Value.str (Str.ofString "Ranges") 434, val := Value.ref 186 }, { hash := PyData.keyHash P (Str.ofString "Slab"), key := Value.str (Str.ofString "Slab") 569, val := Value.ref 287 }, { hash := PyData.keyHash P (Str.ofString "_law_runs"), key := Value.str (Str.ofString "_law_runs") 580, val := Value.ref 298 }, { hash := PyData.keyHash P (Str.ofString "_law_place"), key := Value.str (Str.ofString "_law_place") 586, val := Value.ref 303 }, { hash := PyData.keyHash P (Str.ofString "_law_taken"), key := Value.str (Str.ofString "_law_taken") 595, val := Value.ref 310 }, { hash := PyData.keyHash P (Str.ofString "_law_all"), key := Value.str (Str.ofString "_law_all") 602, val := Value.ref 317 }, { hash := PyData.keyHash P (Str.ofString "_law_given"), key := Value.str (Str.ofString "_law_given") 611, val := Value.ref 324 }, { hash := PyData.keyHash P (Str.ofString "_law_due"), key := Value.str (Str.ofString "_law_due") 625, val := Value.ref 331 }, { hash := PyData.keyHash P (Str.ofString "_law_told"), key := Value.str (Str.ofString "_law_told") 639, val := Value.ref 338 }, { hash := PyData.keyHash P (Str.ofString "_law_is_same"), key := Value.str (Str.ofString "_law_is_same") 645, val := Value.ref 343 }, { hash := PyData.keyHash P (Str.ofString "_law_takes_none"), key := Value.str (Str.ofString "_law_takes_none") 654, val := Value.ref 350 }, { hash := PyData.keyHash P (Str.ofString "law"), key := Value.str (Str.ofString "law") 671, val := Value.ref 357 }] 24 }) ::
  (nat_lit 15, { cls := Value.type "tuple", data := Data.seq #[] }) ::
  (nat_lit 17, { cls := Value.type "tuple", data := Data.seq #[Value.str (Str.ofString "k") 190] }) ::
  (nat_lit 18, { cls := Value.type "tuple", data := Data.seq #[] }) ::
  (nat_lit 20, { cls := Value.type "code", data := Data.fields #[Value.str (Str.ofString "_wall") 187, Value.str (Str.ofString "_wall") 188, Value.str (Str.ofString "/claim/cut.py") 189, Value.int 1 0, Value.int 1 0, Value.int 0 0, Value.int 0 0, Value.int 3 0, Value.ref 15, Value.bool true, Value.int 181 0, Value.ref 16, Value.none, Value.ref 17, Value.ref 18, Value.ref 19, Value.int 191 0, Value.int 1 0, Value.str (Str.ofString "/claim/cut.py") 192] }) ::
  (nat_lit 21, { cls := Value.type "function", data := Data.func { name := Str.ofString "_wall", qualname := Str.ofString "_wall", params := fd_0.1, body := FuncBody.stmts fd_0.2.1, scope := fd_0.2.2, globals := 3, closure := [], defaults := Value.none, kwdefaults := Value.none, pyModule := Value.str (Str.ofString "__main__") 164, code := Value.ref 20 } }) ::
  (nat_lit 22, { cls := Value.type "tuple", data := Data.seq #[Value.type "Exception"] }) ::
  (nat_lit 29, { cls := Value.type "tuple", data := Data.seq #[] }) ::
  (nat_lit 31, { cls := Value.type "tuple", data := Data.seq #[Value.str (Str.ofString "self") 211, Value.str (Str.ofString "why") 212] }) ::
  (nat_lit 32, { cls := Value.type "tuple", data := Data.seq #[] }) ::
  (nat_lit 34, { cls := Value.type "code", data := Data.fields #[Value.str (Str.ofString "__init__") 208, Value.str (Str.ofString "PoolFault.__init__") 209, Value.str (Str.ofString "/claim/cut.py") 210, Value.int 7 0, Value.int 2 0, Value.int 0 0, Value.int 0 0, Value.int 3 0, Value.ref 29, Value.bool true, Value.int 181 0, Value.ref 30, Value.none, Value.ref 31, Value.ref 32, Value.ref 33, Value.int 213 0, Value.int 7 0, Value.str (Str.ofString "/claim/cut.py") 214] }) ::
  (nat_lit 35, { cls := Value.type "function", data := Data.func { name := Str.ofString "__init__", qualname := Str.ofString "PoolFault.__init__", params := fd_2_0.1, body := FuncBody.stmts fd_2_0.2.1, scope := fd_2_0.2.2, globals := 3, closure := [], defaults := Value.none, kwdefaults := Value.none, pyModule := Value.str (Str.ofString "treepool.faults") 194, code := Value.ref 34 } }) ::
  (nat_lit 36, { cls := Value.type "tuple", data := Data.seq #[Value.str (Str.ofString "why") 216] }) ::
  (nat_lit 37, { cls := Value.type "dict", data := Data.dict #[{ hash := PyData.keyHash P (Str.ofString "__module__"), key := Value.str (Str.ofString "__module__") 203, val := Value.str (Str.ofString "treepool.faults") 194 }, { hash := PyData.keyHash P (Str.ofString "__firstlineno__"), key := Value.str (Str.ofString "__firstlineno__") 207, val := Value.int 5 206 }, { hash := PyData.keyHash P (Str.ofString "__init__"), key := Value.str (Str.ofString "__init__") 215, val := Value.ref 35 }, { hash := PyData.keyHash P (Str.ofString "__static_attributes__"), key := Value.str (Str.ofString "__static_attributes__") 217, val := Value.ref 36 }, { hash := PyData.keyHash P (Str.ofString "__weakref__"), key := Value.str (Str.ofString "__weakref__") 219, val := Value.ref 39 }, { hash := PyData.keyHash P (Str.ofString "__doc__"), key := Value.str (Str.ofString "__doc__") 220, val := Value.none }] 3 }) ::
  (nat_lit 38, { cls := Value.type "type", data := Data.cls { name := Str.ofString "PoolFault", bases := [Value.type "Exception"], mro := [Value.ref 38, Value.type "Exception", Value.type "BaseException", Value.type "object"], ns := 37, qualname := Str.ofString "PoolFault", subclasses := [Value.ref 51] }, slots := #[some (Value.ref 22), none, some (Value.str (Str.ofString "PoolFault") 196), some (Value.str (Str.ofString "PoolFault") 204), some (Value.builtin "Exception.__new__"), some (Value.bool true)] }) ::
  (nat_lit 39, { cls := Value.type "getset_descriptor", data := Data.fields #[Value.str (Str.ofString "__weakref__") 218, Value.ref 38, Value.builtin "ExceptionGroup.__weakref__", Value.none] }) ::
  (nat_lit 42, { cls := Value.type "tuple", data := Data.seq #[Value.ref 38] }) ::
  (nat_lit 49, { cls := Value.type "tuple", data := Data.seq #[] }) ::
  (nat_lit 50, { cls := Value.type "dict", data := Data.dict #[{ hash := PyData.keyHash P (Str.ofString "__module__"), key := Value.str (Str.ofString "__module__") 232, val := Value.str (Str.ofString "treepool.faults") 194 }, { hash := PyData.keyHash P (Str.ofString "__firstlineno__"), key := Value.str (Str.ofString "__firstlineno__") 236, val := Value.int 10 235 }, { hash := PyData.keyHash P (Str.ofString "__static_attributes__"), key := Value.str (Str.ofString "__static_attributes__") 237, val := Value.ref 49 }, { hash := PyData.keyHash P (Str.ofString "__doc__"), key := Value.str (Str.ofString "__doc__") 238, val := Value.none }] 2 }) ::
  (nat_lit 51, { cls := Value.type "type", data := Data.cls { name := Str.ofString "Misused", bases := [Value.ref 38], mro := [Value.ref 51, Value.ref 38, Value.type "Exception", Value.type "BaseException", Value.type "object"], ns := 50, qualname := Str.ofString "Misused" }, slots := #[some (Value.ref 42), none, some (Value.str (Str.ofString "Misused") 225), some (Value.str (Str.ofString "Misused") 233), some (Value.builtin "Exception.__new__"), some (Value.bool true)] }) ::
  (nat_lit 61, { cls := Value.type "tuple", data := Data.seq #[] }) ::
  (nat_lit 62, { cls := Value.type "tuple", data := Data.seq #[Value.ref 61] }) ::
  (nat_lit 63, { cls := Value.type "tuple", data := Data.seq #[] }) ::
  (nat_lit 65, { cls := Value.type "tuple", data := Data.seq #[Value.str (Str.ofString "self") 258, Value.str (Str.ofString "rows") 259, Value.str (Str.ofString "begin") 260, Value.str (Str.ofString "end") 261] }) ::
  (nat_lit 66, { cls := Value.type "tuple", data := Data.seq #[] }) ::
  (nat_lit 68, { cls := Value.type "code", data := Data.fields #[Value.str (Str.ofString "__init__") 255, Value.str (Str.ofString "Ranges.__init__") 256, Value.str (Str.ofString "/claim/cut.py") 257, Value.int 15 0, Value.int 2 0, Value.int 0 0, Value.int 0 0, Value.int 3 0, Value.ref 63, Value.bool true, Value.int 181 0, Value.ref 64, Value.none, Value.ref 65, Value.ref 66, Value.ref 67, Value.int 262 0, Value.int 15 0, Value.str (Str.ofString "/claim/cut.py") 263] }) ::
  (nat_lit 69, { cls := Value.type "function", data := Data.func { name := Str.ofString "__init__", qualname := Str.ofString "Ranges.__init__", params := fd_5_0.1, body := FuncBody.stmts fd_5_0.2.1, scope := fd_5_0.2.2, globals := 3, closure := [], defaults := Value.ref 62, kwdefaults := Value.none, pyModule := Value.str (Str.ofString "treepool.ranges") 241, code := Value.ref 68 } }) ::
  (nat_lit 70, { cls := Value.type "tuple", data := Data.seq #[] }) ::
  (nat_lit 72, { cls := Value.type "tuple", data := Data.seq #[Value.str (Str.ofString "self") 268, Value.str (Str.ofString "at") 269, Value.str (Str.ofString "low") 270, Value.str (Str.ofString "high") 271, Value.str (Str.ofString "middle") 272] }) ::
  (nat_lit 73, { cls := Value.type "tuple", data := Data.seq #[] }) ::
  (nat_lit 75, { cls := Value.type "code", data := Data.fields #[Value.str (Str.ofString "behind") 265, Value.str (Str.ofString "Ranges.behind") 266, Value.str (Str.ofString "/claim/cut.py") 267, Value.int 20 0, Value.int 2 0, Value.int 0 0, Value.int 0 0, Value.int 3 0, Value.ref 70, Value.bool true, Value.int 181 0, Value.ref 71, Value.none, Value.ref 72, Value.ref 73, Value.ref 74, Value.int 273 0, Value.int 20 0, Value.str (Str.ofString "/claim/cut.py") 274] }) ::
  (nat_lit 76, { cls := Value.type "function", data := Data.func { name := Str.ofString "behind", qualname := Str.ofString "Ranges.behind", params := fd_5_1.1, body := FuncBody.stmts fd_5_1.2.1, scope := fd_5_1.2.2, globals := 3, closure := [], defaults := Value.none, kwdefaults := Value.none, pyModule := Value.str (Str.ofString "treepool.ranges") 241, code := Value.ref 75 } }) ::
  (nat_lit 77, { cls := Value.type "tuple", data := Data.seq #[] }) ::
  (nat_lit 79, { cls := Value.type "tuple", data := Data.seq #[Value.str (Str.ofString "self") 279, Value.str (Str.ofString "begin") 280, Value.str (Str.ofString "many") 281] }) ::
  (nat_lit 80, { cls := Value.type "tuple", data := Data.seq #[] }) ::
  (nat_lit 82, { cls := Value.type "code", data := Data.fields #[Value.str (Str.ofString "want") 276, Value.str (Str.ofString "Ranges.want") 277, Value.str (Str.ofString "/claim/cut.py") 278, Value.int 30 0, Value.int 3 0, Value.int 0 0, Value.int 0 0, Value.int 3 0, Value.ref 77, Value.bool true, Value.int 181 0, Value.ref 78, Value.none, Value.ref 79, Value.ref 80, Value.ref 81, Value.int 282 0, Value.int 30 0, Value.str (Str.ofString "/claim/cut.py") 283] }) ::
  (nat_lit 83, { cls := Value.type "function", data := Data.func { name := Str.ofString "want", qualname := Str.ofString "Ranges.want", params := fd_5_2.1, body := FuncBody.stmts fd_5_2.2.1, scope := fd_5_2.2.2, globals := 3, closure := [], defaults := Value.none, kwdefaults := Value.none, pyModule := Value.str (Str.ofString "treepool.ranges") 241, code := Value.ref 82 } }) ::
  (nat_lit 84, { cls := Value.type "tuple", data := Data.seq #[] }) ::
  (nat_lit 86, { cls := Value.type "tuple", data := Data.seq #[Value.str (Str.ofString "self") 288, Value.str (Str.ofString "begin") 289, Value.str (Str.ofString "many") 290, Value.str (Str.ofString "place") 291] }) ::
  (nat_lit 87, { cls := Value.type "tuple", data := Data.seq #[] }) ::
  (nat_lit 89, { cls := Value.type "code", data := Data.fields #[Value.str (Str.ofString "has") 285, Value.str (Str.ofString "Ranges.has") 286, Value.str (Str.ofString "/claim/cut.py") 287, Value.int 34 0, Value.int 3 0, Value.int 0 0, Value.int 0 0, Value.int 3 0, Value.ref 84, Value.bool true, Value.int 181 0, Value.ref 85, Value.none, Value.ref 86, Value.ref 87, Value.ref 88, Value.int 292 0, Value.int 34 0, Value.str (Str.ofString "/claim/cut.py") 293] }) ::
  (nat_lit 90, { cls := Value.type "function", data := Data.func { name := Str.ofString "has", qualname := Str.ofString "Ranges.has", params := fd_5_3.1, body := FuncBody.stmts fd_5_3.2.1, scope := fd_5_3.2.2, globals := 3, closure := [], defaults := Value.none, kwdefaults := Value.none, pyModule := Value.str (Str.ofString "treepool.ranges") 241, code := Value.ref 89 } }) ::
  (nat_lit 91, { cls := Value.type "tuple", data := Data.seq #[] }) ::
  (nat_lit 93, { cls := Value.type "tuple", data := Data.seq #[Value.str (Str.ofString "self") 298, Value.str (Str.ofString "begin") 299, Value.str (Str.ofString "many") 300, Value.str (Str.ofString "place") 301] }) ::
  (nat_lit 94, { cls := Value.type "tuple", data := Data.seq #[] }) ::
  (nat_lit 96, { cls := Value.type "code", data := Data.fields #[Value.str (Str.ofString "some") 295, Value.str (Str.ofString "Ranges.some") 296, Value.str (Str.ofString "/claim/cut.py") 297, Value.int 39 0, Value.int 3 0, Value.int 0 0, Value.int 0 0, Value.int 3 0, Value.ref 91, Value.bool true, Value.int 181 0, Value.ref 92, Value.none, Value.ref 93, Value.ref 94, Value.ref 95, Value.int 302 0, Value.int 39 0, Value.str (Str.ofString "/claim/cut.py") 303] }) ::
  (nat_lit 97, { cls := Value.type "function", data := Data.func { name := Str.ofString "some", qualname := Str.ofString "Ranges.some", params := fd_5_4.1, body := FuncBody.stmts fd_5_4.2.1, scope := fd_5_4.2.2, globals := 3, closure := [], defaults := Value.none, kwdefaults := Value.none, pyModule := Value.str (Str.ofString "treepool.ranges") 241, code := Value.ref 96 } }) ::
  (nat_lit 98, { cls := Value.type "tuple", data := Data.seq #[] }) ::
  (nat_lit 101, { cls := Value.type "code", data := Data.fields #[Value.str (Str.ofString "total") 305, Value.str (Str.ofString "Ranges.total") 306, Value.str (Str.ofString "/claim/cut.py") 307, Value.int 44 0, Value.int 1 0, Value.int 0 0, Value.int 0 0, Value.int 3 0, Value.ref 98, Value.bool true, Value.int 181 0, Value.ref 99, Value.none, Value.none, Value.none, Value.ref 100, Value.int 308 0, Value.int 44 0, Value.str (Str.ofString "/claim/cut.py") 309] }) ::
  (nat_lit 102, { cls := Value.type "function", data := Data.func { name := Str.ofString "total", qualname := Str.ofString "Ranges.total", params := fd_5_5.1, body := FuncBody.stmts fd_5_5.2.1, scope := fd_5_5.2.2, globals := 3, closure := [], defaults := Value.none, kwdefaults := Value.none, pyModule := Value.str (Str.ofString "treepool.ranges") 241, code := Value.ref 101 } }) ::
  (nat_lit 103, { cls := Value.type "tuple", data := Data.seq #[] }) ::
  (nat_lit 106, { cls := Value.type "code", data := Data.fields #[Value.str (Str.ofString "longest") 311, Value.str (Str.ofString "Ranges.longest") 312, Value.str (Str.ofString "/claim/cut.py") 313, Value.int 47 0, Value.int 1 0, Value.int 0 0, Value.int 0 0, Value.int 3 0, Value.ref 103, Value.bool true, Value.int 181 0, Value.ref 104, Value.none, Value.none, Value.none, Value.ref 105, Value.int 314 0, Value.int 47 0, Value.str (Str.ofString "/claim/cut.py") 315] }) ::
  (nat_lit 107, { cls := Value.type "function", data := Data.func { name := Str.ofString "longest", qualname := Str.ofString "Ranges.longest", params := fd_5_6.1, body := FuncBody.stmts fd_5_6.2.1, scope := fd_5_6.2.2, globals := 3, closure := [], defaults := Value.none, kwdefaults := Value.none, pyModule := Value.str (Str.ofString "treepool.ranges") 241, code := Value.ref 106 } }) ::
  (nat_lit 108, { cls := Value.type "tuple", data := Data.seq #[] }) ::
  (nat_lit 110, { cls := Value.type "tuple", data := Data.seq #[Value.str (Str.ofString "self") 320] }) ::
  (nat_lit 111, { cls := Value.type "tuple", data := Data.seq #[] }) ::
  (nat_lit 113, { cls := Value.type "code", data := Data.fields #[Value.str (Str.ofString "parts") 317, Value.str (Str.ofString "Ranges.parts") 318, Value.str (Str.ofString "/claim/cut.py") 319, Value.int 50 0, Value.int 1 0, Value.int 0 0, Value.int 0 0, Value.int 3 0, Value.ref 108, Value.bool true, Value.int 181 0, Value.ref 109, Value.none, Value.ref 110, Value.ref 111, Value.ref 112, Value.int 321 0, Value.int 50 0, Value.str (Str.ofString "/claim/cut.py") 322] }) ::
  (nat_lit 114, { cls := Value.type "function", data := Data.func { name := Str.ofString "parts", qualname := Str.ofString "Ranges.parts", params := fd_5_7.1, body := FuncBody.stmts fd_5_7.2.1, scope := fd_5_7.2.2, globals := 3, closure := [], defaults := Value.none, kwdefaults := Value.none, pyModule := Value.str (Str.ofString "treepool.ranges") 241, code := Value.ref 113 } }) ::
  (nat_lit 115, { cls := Value.type "tuple", data := Data.seq #[] }) ::
  (nat_lit 117, { cls := Value.type "tuple", data := Data.seq #[Value.str (Str.ofString "self") 327, Value.str (Str.ofString "begin") 328, Value.str (Str.ofString "many") 329] }) ::
  (nat_lit 118, { cls := Value.type "tuple", data := Data.seq #[] }) ::
  (nat_lit 120, { cls := Value.type "code", data := Data.fields #[Value.str (Str.ofString "gaps") 324, Value.str (Str.ofString "Ranges.gaps") 325, Value.str (Str.ofString "/claim/cut.py") 326, Value.int 53 0, Value.int 3 0, Value.int 0 0, Value.int 0 0, Value.int 3 0, Value.ref 115, Value.bool true, Value.int 181 0, Value.ref 116, Value.none, Value.ref 117, Value.ref 118, Value.ref 119, Value.int 330 0, Value.int 53 0, Value.str (Str.ofString "/claim/cut.py") 331] }) ::
  (nat_lit 121, { cls := Value.type "function", data := Data.func { name := Str.ofString "gaps", qualname := Str.ofString "Ranges.gaps", params := fd_5_8.1, body := FuncBody.stmts fd_5_8.2.1, scope := fd_5_8.2.2, globals := 3, closure := [], defaults := Value.none, kwdefaults := Value.none, pyModule := Value.str (Str.ofString "treepool.ranges") 241, code := Value.ref 120 } }) ::
  (nat_lit 122, { cls := Value.type "tuple", data := Data.seq #[Value.int 0 333] }) ::
  (nat_lit 123, { cls := Value.type "tuple", data := Data.seq #[] }) ::
  (nat_lit 125, { cls := Value.type "tuple", data := Data.seq #[Value.str (Str.ofString "self") 337, Value.str (Str.ofString "many") 338, Value.str (Str.ofString "least") 339, Value.str (Str.ofString "begin") 340, Value.str (Str.ofString "end") 341] }) ::
  (nat_lit 126, { cls := Value.type "tuple", data := Data.seq #[] }) ::
  (nat_lit 128, { cls := Value.type "code", data := Data.fields #[Value.str (Str.ofString "first_fit") 334, Value.str (Str.ofString "Ranges.first_fit") 335, Value.str (Str.ofString "/claim/cut.py") 336, Value.int 56 0, Value.int 3 0, Value.int 0 0, Value.int 0 0, Value.int 3 0, Value.ref 123, Value.bool true, Value.int 181 0, Value.ref 124, Value.none, Value.ref 125, Value.ref 126, Value.ref 127, Value.int 342 0, Value.int 56 0, Value.str (Str.ofString "/claim/cut.py") 343] }) ::
  (nat_lit 129, { cls := Value.type "function", data := Data.func { name := Str.ofString "first_fit", qualname := Str.ofString "Ranges.first_fit", params := fd_5_9.1, body := FuncBody.stmts fd_5_9.2.1, scope := fd_5_9.2.2, globals := 3, closure := [], defaults := Value.ref 122, kwdefaults := Value.none, pyModule := Value.str (Str.ofString "treepool.ranges") 241, code := Value.ref 128 } }) ::
  (nat_lit 130, { cls := Value.type "tuple", data := Data.seq #[] }) ::
  (nat_lit 133, { cls := Value.type "code", data := Data.fields #[Value.str (Str.ofString "best_fit") 345, Value.str (Str.ofString "Ranges.best_fit") 346, Value.str (Str.ofString "/claim/cut.py") 347, Value.int 62 0, Value.int 2 0, Value.int 0 0, Value.int 0 0, Value.int 3 0, Value.ref 130, Value.bool true, Value.int 181 0, Value.ref 131, Value.none, Value.none, Value.none, Value.ref 132, Value.int 348 0, Value.int 62 0, Value.str (Str.ofString "/claim/cut.py") 349] }) ::
  (nat_lit 134, { cls := Value.type "function", data := Data.func { name := Str.ofString "best_fit", qualname := Str.ofString "Ranges.best_fit", params := fd_5_10.1, body := FuncBody.stmts fd_5_10.2.1, scope := fd_5_10.2.2, globals := 3, closure := [], defaults := Value.none, kwdefaults := Value.none, pyModule := Value.str (Str.ofString "treepool.ranges") 241, code := Value.ref 133 } }) ::
  (nat_lit 135, { cls := Value.type "tuple", data := Data.seq #[] }) ::
  (nat_lit 137, { cls := Value.type "tuple", data := Data.seq #[Value.str (Str.ofString "self") 354, Value.str (Str.ofString "begin") 355, Value.str (Str.ofString "many") 356] }) ::
  (nat_lit 138, { cls := Value.type "tuple", data := Data.seq #[] }) ::
  (nat_lit 140, { cls := Value.type "code", data := Data.fields #[Value.str (Str.ofString "add") 351, Value.str (Str.ofString "Ranges.add") 352, Value.str (Str.ofString "/claim/cut.py") 353, Value.int 66 0, Value.int 3 0, Value.int 0 0, Value.int 0 0, Value.int 3 0, Value.ref 135, Value.bool true, Value.int 181 0, Value.ref 136, Value.none, Value.ref 137, Value.ref 138, Value.ref 139, Value.int 357 0, Value.int 66 0, Value.str (Str.ofString "/claim/cut.py") 358] }) ::
  (nat_lit 141, { cls := Value.type "function", data := Data.func { name := Str.ofString "add", qualname := Str.ofString "Ranges.add", params := fd_5_11.1, body := FuncBody.stmts fd_5_11.2.1, scope := fd_5_11.2.2, globals := 3, closure := [], defaults := Value.none, kwdefaults := Value.none, pyModule := Value.str (Str.ofString "treepool.ranges") 241, code := Value.ref 140 } }) ::
  (nat_lit 142, { cls := Value.type "tuple", data := Data.seq #[] }) ::
  (nat_lit 144, { cls := Value.type "tuple", data := Data.seq #[Value.str (Str.ofString "self") 363, Value.str (Str.ofString "begin") 364, Value.str (Str.ofString "many") 365] }) ::
  (nat_lit 145, { cls := Value.type "tuple", data := Data.seq #[] }) ::
  (nat_lit 147, { cls := Value.type "code", data := Data.fields #[Value.str (Str.ofString "take") 360, Value.str (Str.ofString "Ranges.take") 361, Value.str (Str.ofString "/claim/cut.py") 362, Value.int 72 0, Value.int 3 0, Value.int 0 0, Value.int 0 0, Value.int 3 0, Value.ref 142, Value.bool true, Value.int 181 0, Value.ref 143, Value.none, Value.ref 144, Value.ref 145, Value.ref 146, Value.int 366 0, Value.int 72 0, Value.str (Str.ofString "/claim/cut.py") 367] }) ::
  (nat_lit 148, { cls := Value.type "function", data := Data.func { name := Str.ofString "take", qualname := Str.ofString "Ranges.take", params := fd_5_12.1, body := FuncBody.stmts fd_5_12.2.1, scope := fd_5_12.2.2, globals := 3, closure := [], defaults := Value.none, kwdefaults := Value.none, pyModule := Value.str (Str.ofString "treepool.ranges") 241, code := Value.ref 147 } }) ::
  (nat_lit 149, { cls := Value.type "tuple", data := Data.seq #[] }) ::
  (nat_lit 151, { cls := Value.type "tuple", data := Data.seq #[Value.str (Str.ofString "self") 372, Value.str (Str.ofString "begin") 373, Value.str (Str.ofString "many") 374, Value.str (Str.ofString "end") 375, Value.str (Str.ofString "low") 376, Value.str (Str.ofString "high") 377] }) ::
  (nat_lit 152, { cls := Value.type "tuple", data := Data.seq #[] }) ::
  (nat_lit 154, { cls := Value.type "code", data := Data.fields #[Value.str (Str.ofString "put") 369, Value.str (Str.ofString "Ranges.put") 370, Value.str (Str.ofString "/claim/cut.py") 371, Value.int 78 0, Value.int 3 0, Value.int 0 0, Value.int 0 0, Value.int 3 0, Value.ref 149, Value.bool true, Value.int 181 0, Value.ref 150, Value.none, Value.ref 151, Value.ref 152, Value.ref 153, Value.int 378 0, Value.int 78 0, Value.str (Str.ofString "/claim/cut.py") 379] }) ::
  (nat_lit 155, { cls := Value.type "function", data := Data.func { name := Str.ofString "put", qualname := Str.ofString "Ranges.put", params := fd_5_13.1, body := FuncBody.stmts fd_5_13.2.1, scope := fd_5_13.2.2, globals := 3, closure := [], defaults := Value.none, kwdefaults := Value.none, pyModule := Value.str (Str.ofString "treepool.ranges") 241, code := Value.ref 154 } }) ::
  (nat_lit 156, { cls := Value.type "tuple", data := Data.seq #[] }) ::
  (nat_lit 158, { cls := Value.type "tuple", data := Data.seq #[Value.str (Str.ofString "self") 384, Value.str (Str.ofString "begin") 385, Value.str (Str.ofString "many") 386, Value.str (Str.ofString "end") 387, Value.str (Str.ofString "low") 388, Value.str (Str.ofString "high") 389, Value.str (Str.ofString "left") 390, Value.str (Str.ofString "first") 391, Value.str (Str.ofString "last") 392] }) ::
  (nat_lit 159, { cls := Value.type "tuple", data := Data.seq #[] }) ::
  (nat_lit 161, { cls := Value.type "code", data := Data.fields #[Value.str (Str.ofString "cut") 381, Value.str (Str.ofString "Ranges.cut") 382, Value.str (Str.ofString "/claim/cut.py") 383, Value.int 90 0, Value.int 3 0, Value.int 0 0, Value.int 0 0, Value.int 3 0, Value.ref 156, Value.bool true, Value.int 181 0, Value.ref 157, Value.none, Value.ref 158, Value.ref 159, Value.ref 160, Value.int 393 0, Value.int 90 0, Value.str (Str.ofString "/claim/cut.py") 394] }) ::
  (nat_lit 162, { cls := Value.type "function", data := Data.func { name := Str.ofString "cut", qualname := Str.ofString "Ranges.cut", params := fd_5_14.1, body := FuncBody.stmts fd_5_14.2.1, scope := fd_5_14.2.2, globals := 3, closure := [], defaults := Value.none, kwdefaults := Value.none, pyModule := Value.str (Str.ofString "treepool.ranges") 241, code := Value.ref 161 } }) ::
  (nat_lit 163, { cls := Value.type "tuple", data := Data.seq #[] }) ::
  (nat_lit 165, { cls := Value.type "tuple", data := Data.seq #[Value.str (Str.ofString "self") 399, Value.str (Str.ofString "found") 400] }) ::
  (nat_lit 166, { cls := Value.type "tuple", data := Data.seq #[] }) ::
  (nat_lit 168, { cls := Value.type "code", data := Data.fields #[Value.str (Str.ofString "copy") 396, Value.str (Str.ofString "Ranges.copy") 397, Value.str (Str.ofString "/claim/cut.py") 398, Value.int 106 0, Value.int 1 0, Value.int 0 0, Value.int 0 0, Value.int 3 0, Value.ref 163, Value.bool true, Value.int 181 0, Value.ref 164, Value.none, Value.ref 165, Value.ref 166, Value.ref 167, Value.int 401 0, Value.int 106 0, Value.str (Str.ofString "/claim/cut.py") 402] }) ::
  (nat_lit 169, { cls := Value.type "function", data := Data.func { name := Str.ofString "copy", qualname := Str.ofString "Ranges.copy", params := fd_5_15.1, body := FuncBody.stmts fd_5_15.2.1, scope := fd_5_15.2.2, globals := 3, closure := [], defaults := Value.none, kwdefaults := Value.none, pyModule := Value.str (Str.ofString "treepool.ranges") 241, code := Value.ref 168 } }) ::
  (nat_lit 170, { cls := Value.type "tuple", data := Data.seq #[] }) ::
  (nat_lit 172, { cls := Value.type "tuple", data := Data.seq #[Value.str (Str.ofString "self") 407, Value.str (Str.ofString "other") 408, Value.str (Str.ofString "found") 409, Value.str (Str.ofString "begin") 410, Value.str (Str.ofString "end") 411] }) ::
  (nat_lit 173, { cls := Value.type "tuple", data := Data.seq #[] }) ::
  (nat_lit 175, { cls := Value.type "code", data := Data.fields #[Value.str (Str.ofString "union") 404, Value.str (Str.ofString "Ranges.union") 405, Value.str (Str.ofString "/claim/cut.py") 406, Value.int 111 0, Value.int 2 0, Value.int 0 0, Value.int 0 0, Value.int 3 0, Value.ref 170, Value.bool true, Value.int 181 0, Value.ref 171, Value.none, Value.ref 172, Value.ref 173, Value.ref 174, Value.int 412 0, Value.int 111 0, Value.str (Str.ofString "/claim/cut.py") 413] }) ::
  (nat_lit 176, { cls := Value.type "function", data := Data.func { name := Str.ofString "union", qualname := Str.ofString "Ranges.union", params := fd_5_16.1, body := FuncBody.stmts fd_5_16.2.1, scope := fd_5_16.2.2, globals := 3, closure := [], defaults := Value.none, kwdefaults := Value.none, pyModule := Value.str (Str.ofString "treepool.ranges") 241, code := Value.ref 175 } }) ::
  (nat_lit 177, { cls := Value.type "tuple", data := Data.seq #[] }) ::
  (nat_lit 179, { cls := Value.type "tuple", data := Data.seq #[Value.str (Str.ofString "self") 418, Value.str (Str.ofString "other") 419, Value.str (Str.ofString "found") 420, Value.str (Str.ofString "begin") 421, Value.str (Str.ofString "end") 422] }) ::
  (nat_lit 180, { cls := Value.type "tuple", data := Data.seq #[] }) ::
  (nat_lit 182, { cls := Value.type "code", data := Data.fields #[Value.str (Str.ofString "without") 415, Value.str (Str.ofString "Ranges.without") 416, Value.str (Str.ofString "/claim/cut.py") 417, Value.int 117 0, Value.int 2 0, Value.int 0 0, Value.int 0 0, Value.int 3 0, Value.ref 177, Value.bool true, Value.int 181 0, Value.ref 178, Value.none, Value.ref 179, Value.ref 180, Value.ref 181, Value.int 423 0, Value.int 117 0, Value.str (Str.ofString "/claim/cut.py") 424] }) ::
  (nat_lit 183, { cls := Value.type "function", data := Data.func { name := Str.ofString "without", qualname := Str.ofString "Ranges.without", params := fd_5_17.1, body := FuncBody.stmts fd_5_17.2.1, scope := fd_5_17.2.2, globals := 3, closure := [], defaults := Value.none, kwdefaults := Value.none, pyModule := Value.str (Str.ofString "treepool.ranges") 241, code := Value.ref 182 } }) ::
  (nat_lit 184, { cls := Value.type "tuple", data := Data.seq #[Value.str (Str.ofString "rows") 426] }) ::
  (nat_lit 185, { cls := Value.type "dict", data := Data.dict #[{ hash := PyData.keyHash P (Str.ofString "__module__"), key := Value.str (Str.ofString "__module__") 250, val := Value.str (Str.ofString "treepool.ranges") 241 }, { hash := PyData.keyHash P (Str.ofString "__firstlineno__"), key := Value.str (Str.ofString "__firstlineno__") 254, val := Value.int 13 253 }, { hash := PyData.keyHash P (Str.ofString "__init__"), key := Value.str (Str.ofString "__init__") 264, val := Value.ref 69 }, { hash := PyData.keyHash P (Str.ofString "behind"), key := Value.str (Str.ofString "behind") 275, val := Value.ref 76 }, { hash := PyData.keyHash P (Str.ofString "want"), key := Value.str (Str.ofString "want") 284, val := Value.ref 83 }, { hash := PyData.keyHash P (Str.ofString "has"), key := Value.str (Str.ofString "has") 294, val := Value.ref 90 }, { hash := PyData.keyHash P (Str.ofString "some"), key := Value.str (Str.ofString "some") 304, val := Value.ref 97 }, { hash := PyData.keyHash P (Str.ofString "total"), key := Value.str (Str.ofString "total") 310, val := Value.ref 102 }, { hash := PyData.keyHash P (Str.ofString "longest"), key := Value.str (Str.ofString "longest") 316, val := Value.ref 107 }, { hash := PyData.keyHash P (Str.ofString "parts"), key := Value.str (Str.ofString "parts") 323, val := Value.ref 114 }, { hash := PyData.keyHash P (Str.ofString "gaps"), key := Value.str (Str.ofString "gaps") 332, val := Value.ref 121 }, { hash := PyData.keyHash P (Str.ofString "first_fit"), key := Value.str (Str.ofString "first_fit") 344, val := Value.ref 129 }, { hash := PyData.keyHash P (Str.ofString "best_fit"), key := Value.str (Str.ofString "best_fit") 350, val := Value.ref 134 }, { hash := PyData.keyHash P (Str.ofString "add"), key := Value.str (Str.ofString "add") 359, val := Value.ref 141 }, { hash := PyData.keyHash P (Str.ofString "take"), key := Value.str (Str.ofString "take") 368, val := Value.ref 148 }, { hash := PyData.keyHash P (Str.ofString "put"), key := Value.str (Str.ofString "put") 380, val := Value.ref 155 }, { hash := PyData.keyHash P (Str.ofString "cut"), key := Value.str (Str.ofString "cut") 395, val := Value.ref 162 }, { hash := PyData.keyHash P (Str.ofString "copy"), key := Value.str (Str.ofString "copy") 403, val := Value.ref 169 }, { hash := PyData.keyHash P (Str.ofString "union"), key := Value.str (Str.ofString "union") 414, val := Value.ref 176 }, { hash := PyData.keyHash P (Str.ofString "without"), key := Value.str (Str.ofString "without") 425, val := Value.ref 183 }, { hash := PyData.keyHash P (Str.ofString "__static_attributes__"), key := Value.str (Str.ofString "__static_attributes__") 427, val := Value.ref 184 }, { hash := PyData.keyHash P (Str.ofString "__dict__"), key := Value.str (Str.ofString "__dict__") 429, val := Value.ref 187 }, { hash := PyData.keyHash P (Str.ofString "__weakref__"), key := Value.str (Str.ofString "__weakref__") 431, val := Value.ref 188 }, { hash := PyData.keyHash P (Str.ofString "__doc__"), key := Value.str (Str.ofString "__doc__") 432, val := Value.none }] 4 }) ::
  (nat_lit 186, { cls := Value.type "type", data := Data.cls { name := Str.ofString "Ranges", bases := [Value.type "object"], mro := [Value.ref 186, Value.type "object"], ns := 185, qualname := Str.ofString "Ranges" }, slots := #[none, none, some (Value.str (Str.ofString "Ranges") 243), some (Value.str (Str.ofString "Ranges") 251), some (Value.builtin "object.__new__"), some (Value.bool true)] }) ::
  (nat_lit 187, { cls := Value.type "getset_descriptor", data := Data.fields #[Value.str (Str.ofString "__dict__") 428, Value.ref 186, Value.builtin "function.__dict__", Value.builtin "function.__dict__#set"] }) ::
  (nat_lit 188, { cls := Value.type "getset_descriptor", data := Data.fields #[Value.str (Str.ofString "__weakref__") 430, Value.ref 186, Value.builtin "ExceptionGroup.__weakref__", Value.none] }) ::
  (nat_lit 198, { cls := Value.type "tuple", data := Data.seq #[] }) ::
  (nat_lit 200, { cls := Value.type "tuple", data := Data.seq #[Value.str (Str.ofString "self") 452, Value.str (Str.ofString "begin") 453, Value.str (Str.ofString "many") 454] }) ::
  (nat_lit 201, { cls := Value.type "tuple", data := Data.seq #[] }) ::
  (nat_lit 203, { cls := Value.type "code", data := Data.fields #[Value.str (Str.ofString "__init__") 449, Value.str (Str.ofString "Slab.__init__") 450, Value.str (Str.ofString "/claim/cut.py") 451, Value.int 125 0, Value.int 3 0, Value.int 0 0, Value.int 0 0, Value.int 3 0, Value.ref 198, Value.bool true, Value.int 181 0, Value.ref 199, Value.none, Value.ref 200, Value.ref 201, Value.ref 202, Value.int 455 0, Value.int 125 0, Value.str (Str.ofString "/claim/cut.py") 456] }) ::
  (nat_lit 204, { cls := Value.type "function", data := Data.func { name := Str.ofString "__init__", qualname := Str.ofString "Slab.__init__", params := fd_7_0.1, body := FuncBody.stmts fd_7_0.2.1, scope := fd_7_0.2.2, globals := 3, closure := [], defaults := Value.none, kwdefaults := Value.none, pyModule := Value.str (Str.ofString "treepool.slabs") 435, code := Value.ref 203 } }) ::
  (nat_lit 205, { cls := Value.type "tuple", data := Data.seq #[] }) ::
  (nat_lit 207, { cls := Value.type "tuple", data := Data.seq #[Value.str (Str.ofString "self") 461] }) ::
  (nat_lit 208, { cls := Value.type "tuple", data := Data.seq #[] }) ::
  (nat_lit 210, { cls := Value.type "code", data := Data.fields #[Value.str (Str.ofString "end") 458, Value.str (Str.ofString "Slab.end") 459, Value.str (Str.ofString "/claim/cut.py") 460, Value.int 132 0, Value.int 1 0, Value.int 0 0, Value.int 0 0, Value.int 3 0, Value.ref 205, Value.bool true, Value.int 181 0, Value.ref 206, Value.none, Value.ref 207, Value.ref 208, Value.ref 209, Value.int 462 0, Value.int 132 0, Value.str (Str.ofString "/claim/cut.py") 463] }) ::
  (nat_lit 211, { cls := Value.type "function", data := Data.func { name := Str.ofString "end", qualname := Str.ofString "Slab.end", params := fd_7_1.1, body := FuncBody.stmts fd_7_1.2.1, scope := fd_7_1.2.2, globals := 3, closure := [], defaults := Value.none, kwdefaults := Value.none, pyModule := Value.str (Str.ofString "treepool.slabs") 435, code := Value.ref 210 } }) ::
  (nat_lit 212, { cls := Value.type "tuple", data := Data.seq #[] }) ::
  (nat_lit 214, { cls := Value.type "tuple", data := Data.seq #[Value.str (Str.ofString "self") 468, Value.str (Str.ofString "sector") 469, Value.str (Str.ofString "count") 470] }) ::
  (nat_lit 215, { cls := Value.type "tuple", data := Data.seq #[] }) ::
  (nat_lit 217, { cls := Value.type "code", data := Data.fields #[Value.str (Str.ofString "covers") 465, Value.str (Str.ofString "Slab.covers") 466, Value.str (Str.ofString "/claim/cut.py") 467, Value.int 135 0, Value.int 3 0, Value.int 0 0, Value.int 0 0, Value.int 3 0, Value.ref 212, Value.bool true, Value.int 181 0, Value.ref 213, Value.none, Value.ref 214, Value.ref 215, Value.ref 216, Value.int 471 0, Value.int 135 0, Value.str (Str.ofString "/claim/cut.py") 472] }) ::
  (nat_lit 218, { cls := Value.type "function", data := Data.func { name := Str.ofString "covers", qualname := Str.ofString "Slab.covers", params := fd_7_2.1, body := FuncBody.stmts fd_7_2.2.1, scope := fd_7_2.2.2, globals := 3, closure := [], defaults := Value.none, kwdefaults := Value.none, pyModule := Value.str (Str.ofString "treepool.slabs") 435, code := Value.ref 217 } }) ::
  (nat_lit 219, { cls := Value.type "tuple", data := Data.seq #[] }) ::
  (nat_lit 221, { cls := Value.type "tuple", data := Data.seq #[Value.str (Str.ofString "self") 477] }) ::
  (nat_lit 222, { cls := Value.type "tuple", data := Data.seq #[] }) ::
  (nat_lit 224, { cls := Value.type "code", data := Data.fields #[Value.str (Str.ofString "room") 474, Value.str (Str.ofString "Slab.room") 475, Value.str (Str.ofString "/claim/cut.py") 476, Value.int 138 0, Value.int 1 0, Value.int 0 0, Value.int 0 0, Value.int 3 0, Value.ref 219, Value.bool true, Value.int 181 0, Value.ref 220, Value.none, Value.ref 221, Value.ref 222, Value.ref 223, Value.int 478 0, Value.int 138 0, Value.str (Str.ofString "/claim/cut.py") 479] }) ::
  (nat_lit 225, { cls := Value.type "function", data := Data.func { name := Str.ofString "room", qualname := Str.ofString "Slab.room", params := fd_7_3.1, body := FuncBody.stmts fd_7_3.2.1, scope := fd_7_3.2.2, globals := 3, closure := [], defaults := Value.none, kwdefaults := Value.none, pyModule := Value.str (Str.ofString "treepool.slabs") 435, code := Value.ref 224 } }) ::
  (nat_lit 226, { cls := Value.type "tuple", data := Data.seq #[] }) ::
  (nat_lit 229, { cls := Value.type "code", data := Data.fields #[Value.str (Str.ofString "waiting") 481, Value.str (Str.ofString "Slab.waiting") 482, Value.str (Str.ofString "/claim/cut.py") 483, Value.int 141 0, Value.int 1 0, Value.int 0 0, Value.int 0 0, Value.int 3 0, Value.ref 226, Value.bool true, Value.int 181 0, Value.ref 227, Value.none, Value.none, Value.none, Value.ref 228, Value.int 484 0, Value.int 141 0, Value.str (Str.ofString "/claim/cut.py") 485] }) ::
  (nat_lit 230, { cls := Value.type "function", data := Data.func { name := Str.ofString "waiting", qualname := Str.ofString "Slab.waiting", params := fd_7_4.1, body := FuncBody.stmts fd_7_4.2.1, scope := fd_7_4.2.2, globals := 3, closure := [], defaults := Value.none, kwdefaults := Value.none, pyModule := Value.str (Str.ofString "treepool.slabs") 435, code := Value.ref 229 } }) ::
  (nat_lit 231, { cls := Value.type "tuple", data := Data.seq #[] }) ::
  (nat_lit 233, { cls := Value.type "tuple", data := Data.seq #[Value.str (Str.ofString "self") 490, Value.str (Str.ofString "room") 491, Value.str (Str.ofString "longest") 492] }) ::
  (nat_lit 234, { cls := Value.type "tuple", data := Data.seq #[] }) ::
  (nat_lit 236, { cls := Value.type "code", data := Data.fields #[Value.str (Str.ofString "weight") 487, Value.str (Str.ofString "Slab.weight") 488, Value.str (Str.ofString "/claim/cut.py") 489, Value.int 144 0, Value.int 1 0, Value.int 0 0, Value.int 0 0, Value.int 3 0, Value.ref 231, Value.bool true, Value.int 181 0, Value.ref 232, Value.none, Value.ref 233, Value.ref 234, Value.ref 235, Value.int 493 0, Value.int 144 0, Value.str (Str.ofString "/claim/cut.py") 494] }) ::
  (nat_lit 237, { cls := Value.type "function", data := Data.func { name := Str.ofString "weight", qualname := Str.ofString "Slab.weight", params := fd_7_5.1, body := FuncBody.stmts fd_7_5.2.1, scope := fd_7_5.2.2, globals := 3, closure := [], defaults := Value.none, kwdefaults := Value.none, pyModule := Value.str (Str.ofString "treepool.slabs") 435, code := Value.ref 236 } }) ::
  (nat_lit 238, { cls := Value.type "tuple", data := Data.seq #[] }) ::
  (nat_lit 241, { cls := Value.type "code", data := Data.fields #[Value.str (Str.ofString "is_given") 496, Value.str (Str.ofString "Slab.is_given") 497, Value.str (Str.ofString "/claim/cut.py") 498, Value.int 148 0, Value.int 3 0, Value.int 0 0, Value.int 0 0, Value.int 3 0, Value.ref 238, Value.bool true, Value.int 181 0, Value.ref 239, Value.none, Value.none, Value.none, Value.ref 240, Value.int 499 0, Value.int 148 0, Value.str (Str.ofString "/claim/cut.py") 500] }) ::
  (nat_lit 242, { cls := Value.type "function", data := Data.func { name := Str.ofString "is_given", qualname := Str.ofString "Slab.is_given", params := fd_7_6.1, body := FuncBody.stmts fd_7_6.2.1, scope := fd_7_6.2.2, globals := 3, closure := [], defaults := Value.none, kwdefaults := Value.none, pyModule := Value.str (Str.ofString "treepool.slabs") 435, code := Value.ref 241 } }) ::
  (nat_lit 243, { cls := Value.type "tuple", data := Data.seq #[] }) ::
  (nat_lit 245, { cls := Value.type "tuple", data := Data.seq #[Value.str (Str.ofString "self") 505, Value.str (Str.ofString "found") 506, Value.str (Str.ofString "txg") 507] }) ::
  (nat_lit 246, { cls := Value.type "tuple", data := Data.seq #[] }) ::
  (nat_lit 248, { cls := Value.type "code", data := Data.fields #[Value.str (Str.ofString "mapped") 502, Value.str (Str.ofString "Slab.mapped") 503, Value.str (Str.ofString "/claim/cut.py") 504, Value.int 153 0, Value.int 1 0, Value.int 0 0, Value.int 0 0, Value.int 3 0, Value.ref 243, Value.bool true, Value.int 181 0, Value.ref 244, Value.none, Value.ref 245, Value.ref 246, Value.ref 247, Value.int 508 0, Value.int 153 0, Value.str (Str.ofString "/claim/cut.py") 509] }) ::
  (nat_lit 249, { cls := Value.type "function", data := Data.func { name := Str.ofString "mapped", qualname := Str.ofString "Slab.mapped", params := fd_7_7.1, body := FuncBody.stmts fd_7_7.2.1, scope := fd_7_7.2.2, globals := 3, closure := [], defaults := Value.none, kwdefaults := Value.none, pyModule := Value.str (Str.ofString "treepool.slabs") 435, code := Value.ref 248 } }) ::
  (nat_lit 250, { cls := Value.type "tuple", data := Data.seq #[] }) ::
  (nat_lit 252, { cls := Value.type "tuple", data := Data.seq #[Value.str (Str.ofString "self") 514, Value.str (Str.ofString "count") 515, Value.str (Str.ofString "found") 516] }) ::
  (nat_lit 253, { cls := Value.type "tuple", data := Data.seq #[] }) ::
  (nat_lit 255, { cls := Value.type "code", data := Data.fields #[Value.str (Str.ofString "take") 511, Value.str (Str.ofString "Slab.take") 512, Value.str (Str.ofString "/claim/cut.py") 513, Value.int 159 0, Value.int 2 0, Value.int 0 0, Value.int 0 0, Value.int 3 0, Value.ref 250, Value.bool true, Value.int 181 0, Value.ref 251, Value.none, Value.ref 252, Value.ref 253, Value.ref 254, Value.int 517 0, Value.int 159 0, Value.str (Str.ofString "/claim/cut.py") 518] }) ::
  (nat_lit 256, { cls := Value.type "function", data := Data.func { name := Str.ofString "take", qualname := Str.ofString "Slab.take", params := fd_7_8.1, body := FuncBody.stmts fd_7_8.2.1, scope := fd_7_8.2.2, globals := 3, closure := [], defaults := Value.none, kwdefaults := Value.none, pyModule := Value.str (Str.ofString "treepool.slabs") 435, code := Value.ref 255 } }) ::
  (nat_lit 257, { cls := Value.type "tuple", data := Data.seq #[] }) ::
  (nat_lit 259, { cls := Value.type "tuple", data := Data.seq #[Value.str (Str.ofString "self") 523, Value.str (Str.ofString "sector") 524, Value.str (Str.ofString "count") 525] }) ::
  (nat_lit 260, { cls := Value.type "tuple", data := Data.seq #[] }) ::
  (nat_lit 262, { cls := Value.type "code", data := Data.fields #[Value.str (Str.ofString "claim") 520, Value.str (Str.ofString "Slab.claim") 521, Value.str (Str.ofString "/claim/cut.py") 522, Value.int 171 0, Value.int 3 0, Value.int 0 0, Value.int 0 0, Value.int 3 0, Value.ref 257, Value.bool true, Value.int 181 0, Value.ref 258, Value.none, Value.ref 259, Value.ref 260, Value.ref 261, Value.int 526 0, Value.int 171 0, Value.str (Str.ofString "/claim/cut.py") 527] }) ::
  (nat_lit 263, { cls := Value.type "function", data := Data.func { name := Str.ofString "claim", qualname := Str.ofString "Slab.claim", params := fd_7_9.1, body := FuncBody.stmts fd_7_9.2.1, scope := fd_7_9.2.2, globals := 3, closure := [], defaults := Value.none, kwdefaults := Value.none, pyModule := Value.str (Str.ofString "treepool.slabs") 435, code := Value.ref 262 } }) ::
  (nat_lit 264, { cls := Value.type "tuple", data := Data.seq #[] }) ::
  (nat_lit 266, { cls := Value.type "tuple", data := Data.seq #[Value.str (Str.ofString "self") 532, Value.str (Str.ofString "sector") 533, Value.str (Str.ofString "count") 534, Value.str (Str.ofString "txg") 535] }) ::
  (nat_lit 267, { cls := Value.type "tuple", data := Data.seq #[] }) ::
  (nat_lit 269, { cls := Value.type "code", data := Data.fields #[Value.str (Str.ofString "give") 529, Value.str (Str.ofString "Slab.give") 530, Value.str (Str.ofString "/claim/cut.py") 531, Value.int 174 0, Value.int 4 0, Value.int 0 0, Value.int 0 0, Value.int 3 0, Value.ref 264, Value.bool true, Value.int 181 0, Value.ref 265, Value.none, Value.ref 266, Value.ref 267, Value.ref 268, Value.int 536 0, Value.int 174 0, Value.str (Str.ofString "/claim/cut.py") 537] }) ::
  (nat_lit 270, { cls := Value.type "function", data := Data.func { name := Str.ofString "give", qualname := Str.ofString "Slab.give", params := fd_7_10.1, body := FuncBody.stmts fd_7_10.2.1, scope := fd_7_10.2.2, globals := 3, closure := [], defaults := Value.none, kwdefaults := Value.none, pyModule := Value.str (Str.ofString "treepool.slabs") 435, code := Value.ref 269 } }) ::
  (nat_lit 271, { cls := Value.type "tuple", data := Data.seq #[] }) ::
  (nat_lit 273, { cls := Value.type "tuple", data := Data.seq #[Value.str (Str.ofString "self") 542, Value.str (Str.ofString "txg") 543, Value.str (Str.ofString "defer") 544, Value.str (Str.ofString "elder") 545] }) ::
  (nat_lit 274, { cls := Value.type "tuple", data := Data.seq #[] }) ::
  (nat_lit 276, { cls := Value.type "code", data := Data.fields #[Value.str (Str.ofString "settle") 539, Value.str (Str.ofString "Slab.settle") 540, Value.str (Str.ofString "/claim/cut.py") 541, Value.int 181 0, Value.int 3 0, Value.int 0 0, Value.int 0 0, Value.int 3 0, Value.ref 271, Value.bool true, Value.int 181 0, Value.ref 272, Value.none, Value.ref 273, Value.ref 274, Value.ref 275, Value.int 546 0, Value.int 181 0, Value.str (Str.ofString "/claim/cut.py") 547] }) ::
  (nat_lit 277, { cls := Value.type "function", data := Data.func { name := Str.ofString "settle", qualname := Str.ofString "Slab.settle", params := fd_7_11.1, body := FuncBody.stmts fd_7_11.2.1, scope := fd_7_11.2.2, globals := 3, closure := [], defaults := Value.none, kwdefaults := Value.none, pyModule := Value.str (Str.ofString "treepool.slabs") 435, code := Value.ref 276 } }) ::
  (nat_lit 278, { cls := Value.type "tuple", data := Data.seq #[] }) ::
  (nat_lit 280, { cls := Value.type "tuple", data := Data.seq #[Value.str (Str.ofString "self") 552, Value.str (Str.ofString "allocated") 553] }) ::
  (nat_lit 281, { cls := Value.type "tuple", data := Data.seq #[] }) ::
  (nat_lit 283, { cls := Value.type "code", data := Data.fields #[Value.str (Str.ofString "load") 549, Value.str (Str.ofString "Slab.load") 550, Value.str (Str.ofString "/claim/cut.py") 551, Value.int 186 0, Value.int 2 0, Value.int 0 0, Value.int 0 0, Value.int 3 0, Value.ref 278, Value.bool true, Value.int 181 0, Value.ref 279, Value.none, Value.ref 280, Value.ref 281, Value.ref 282, Value.int 554 0, Value.int 186 0, Value.str (Str.ofString "/claim/cut.py") 555] }) ::
  (nat_lit 284, { cls := Value.type "function", data := Data.func { name := Str.ofString "load", qualname := Str.ofString "Slab.load", params := fd_7_12.1, body := FuncBody.stmts fd_7_12.2.1, scope := fd_7_12.2.2, globals := 3, closure := [], defaults := Value.none, kwdefaults := Value.none, pyModule := Value.str (Str.ofString "treepool.slabs") 435, code := Value.ref 283 } }) ::
  (nat_lit 285, { cls := Value.type "tuple", data := Data.seq #[Value.str (Str.ofString "begin") 557, Value.str (Str.ofString "cursor") 558, Value.str (Str.ofString "free") 559, Value.str (Str.ofString "many") 560, Value.str (Str.ofString "waits") 561] }) ::
  (nat_lit 286, { cls := Value.type "dict", data := Data.dict #[{ hash := PyData.keyHash P (Str.ofString "__module__"), key := Value.str (Str.ofString "__module__") 444, val := Value.str (Str.ofString "treepool.slabs") 435 }, { hash := PyData.keyHash P (Str.ofString "__firstlineno__"), key := Value.str (Str.ofString "__firstlineno__") 448, val := Value.int 123 447 }, { hash := PyData.keyHash P (Str.ofString "__init__"), key := Value.str (Str.ofString "__init__") 457, val := Value.ref 204 }, { hash := PyData.keyHash P (Str.ofString "end"), key := Value.str (Str.ofString "end") 464, val := Value.ref 211 }, { hash := PyData.keyHash P (Str.ofString "covers"), key := Value.str (Str.ofString "covers") 473, val := Value.ref 218 }, { hash := PyData.keyHash P (Str.ofString "room"), key := Value.str (Str.ofString "room") 480, val := Value.ref 225 }, { hash := PyData.keyHash P (Str.ofString "waiting"), key := Value.str (Str.ofString "waiting") 486, val := Value.ref 230 }, { hash := PyData.keyHash P (Str.ofString "weight"), key := Value.str (Str.ofString "weight") 495, val := Value.ref 237 }, { hash := PyData.keyHash P (Str.ofString "is_given"), key := Value.str (Str.ofString "is_given") 501, val := Value.ref 242 }, { hash := PyData.keyHash P (Str.ofString "mapped"), key := Value.str (Str.ofString "mapped") 510, val := Value.ref 249 }, { hash := PyData.keyHash P (Str.ofString "take"), key := Value.str (Str.ofString "take") 519, val := Value.ref 256 }, { hash := PyData.keyHash P (Str.ofString "claim"), key := Value.str (Str.ofString "claim") 528, val := Value.ref 263 }, { hash := PyData.keyHash P (Str.ofString "give"), key := Value.str (Str.ofString "give") 538, val := Value.ref 270 }, { hash := PyData.keyHash P (Str.ofString "settle"), key := Value.str (Str.ofString "settle") 548, val := Value.ref 277 }, { hash := PyData.keyHash P (Str.ofString "load"), key := Value.str (Str.ofString "load") 556, val := Value.ref 284 }, { hash := PyData.keyHash P (Str.ofString "__static_attributes__"), key := Value.str (Str.ofString "__static_attributes__") 562, val := Value.ref 285 }, { hash := PyData.keyHash P (Str.ofString "__dict__"), key := Value.str (Str.ofString "__dict__") 564, val := Value.ref 288 }, { hash := PyData.keyHash P (Str.ofString "__weakref__"), key := Value.str (Str.ofString "__weakref__") 566, val := Value.ref 289 }, { hash := PyData.keyHash P (Str.ofString "__doc__"), key := Value.str (Str.ofString "__doc__") 567, val := Value.none }] 4 }) ::
  (nat_lit 287, { cls := Value.type "type", data := Data.cls { name := Str.ofString "Slab", bases := [Value.type "object"], mro := [Value.ref 287, Value.type "object"], ns := 286, qualname := Str.ofString "Slab" }, slots := #[none, none, some (Value.str (Str.ofString "Slab") 437), some (Value.str (Str.ofString "Slab") 445), some (Value.builtin "object.__new__"), some (Value.bool true)] }) ::
  (nat_lit 288, { cls := Value.type "getset_descriptor", data := Data.fields #[Value.str (Str.ofString "__dict__") 563, Value.ref 287, Value.builtin "function.__dict__", Value.builtin "function.__dict__#set"] }) ::
  (nat_lit 289, { cls := Value.type "getset_descriptor", data := Data.fields #[Value.str (Str.ofString "__weakref__") 565, Value.ref 287, Value.builtin "ExceptionGroup.__weakref__", Value.none] }) ::
  (nat_lit 292, { cls := Value.type "tuple", data := Data.seq #[] }) ::
  (nat_lit 294, { cls := Value.type "tuple", data := Data.seq #[Value.str (Str.ofString "own") 575, Value.str (Str.ofString "rows") 576, Value.str (Str.ofString "number") 577] }) ::
  (nat_lit 295, { cls := Value.type "tuple", data := Data.seq #[] }) ::
  (nat_lit 297, { cls := Value.type "code", data := Data.fields #[Value.str (Str.ofString "_law_runs") 572, Value.str (Str.ofString "_law_runs") 573, Value.str (Str.ofString "/claim/cut.py") 574, Value.int 191 0, Value.int 1 0, Value.int 0 0, Value.int 0 0, Value.int 3 0, Value.ref 292, Value.bool true, Value.int 181 0, Value.ref 293, Value.none, Value.ref 294, Value.ref 295, Value.ref 296, Value.int 578 0, Value.int 191 0, Value.str (Str.ofString "/claim/cut.py") 579] }) ::
  (nat_lit 298, { cls := Value.type "function", data := Data.func { name := Str.ofString "_law_runs", qualname := Str.ofString "_law_runs", params := fd_9.1, body := FuncBody.stmts fd_9.2.1, scope := fd_9.2.2, globals := 3, closure := [], defaults := Value.none, kwdefaults := Value.none, pyModule := Value.str (Str.ofString "law_np0194_01") 570, code := Value.ref 297 } }) ::
  (nat_lit 299, { cls := Value.type "tuple", data := Data.seq #[] }) ::
  (nat_lit 302, { cls := Value.type "code", data := Data.fields #[Value.str (Str.ofString "_law_place") 581, Value.str (Str.ofString "_law_place") 582, Value.str (Str.ofString "/claim/cut.py") 583, Value.int 199 0, Value.int 2 0, Value.int 0 0, Value.int 0 0, Value.int 3 0, Value.ref 299, Value.bool true, Value.int 181 0, Value.ref 300, Value.none, Value.none, Value.none, Value.ref 301, Value.int 584 0, Value.int 199 0, Value.str (Str.ofString "/claim/cut.py") 585] }) ::
  (nat_lit 303, { cls := Value.type "function", data := Data.func { name := Str.ofString "_law_place", qualname := Str.ofString "_law_place", params := fd_10.1, body := FuncBody.stmts fd_10.2.1, scope := fd_10.2.2, globals := 3, closure := [], defaults := Value.none, kwdefaults := Value.none, pyModule := Value.str (Str.ofString "law_np0194_01") 570, code := Value.ref 302 } }) ::
  (nat_lit 304, { cls := Value.type "tuple", data := Data.seq #[] }) ::
  (nat_lit 306, { cls := Value.type "tuple", data := Data.seq #[Value.str (Str.ofString "world") 590, Value.str (Str.ofString "count") 591, Value.str (Str.ofString "place") 592] }) ::
  (nat_lit 307, { cls := Value.type "tuple", data := Data.seq #[] }) ::
  (nat_lit 309, { cls := Value.type "code", data := Data.fields #[Value.str (Str.ofString "_law_taken") 587, Value.str (Str.ofString "_law_taken") 588, Value.str (Str.ofString "/claim/cut.py") 589, Value.int 205 0, Value.int 2 0, Value.int 0 0, Value.int 0 0, Value.int 3 0, Value.ref 304, Value.bool true, Value.int 181 0, Value.ref 305, Value.none, Value.ref 306, Value.ref 307, Value.ref 308, Value.int 593 0, Value.int 205 0, Value.str (Str.ofString "/claim/cut.py") 594] }) ::
  (nat_lit 310, { cls := Value.type "function", data := Data.func { name := Str.ofString "_law_taken", qualname := Str.ofString "_law_taken", params := fd_11.1, body := FuncBody.stmts fd_11.2.1, scope := fd_11.2.2, globals := 3, closure := [], defaults := Value.none, kwdefaults := Value.none, pyModule := Value.str (Str.ofString "law_np0194_01") 570, code := Value.ref 309 } }) ::
  (nat_lit 311, { cls := Value.type "tuple", data := Data.seq #[] }) ::
  (nat_lit 313, { cls := Value.type "tuple", data := Data.seq #[Value.str (Str.ofString "world") 599] }) ::
  (nat_lit 314, { cls := Value.type "tuple", data := Data.seq #[] }) ::
  (nat_lit 316, { cls := Value.type "code", data := Data.fields #[Value.str (Str.ofString "_law_all") 596, Value.str (Str.ofString "_law_all") 597, Value.str (Str.ofString "/claim/cut.py") 598, Value.int 211 0, Value.int 1 0, Value.int 0 0, Value.int 0 0, Value.int 3 0, Value.ref 311, Value.bool true, Value.int 181 0, Value.ref 312, Value.none, Value.ref 313, Value.ref 314, Value.ref 315, Value.int 600 0, Value.int 211 0, Value.str (Str.ofString "/claim/cut.py") 601] }) ::
  (nat_lit 317, { cls := Value.type "function", data := Data.func { name := Str.ofString "_law_all", qualname := Str.ofString "_law_all", params := fd_12.1, body := FuncBody.stmts fd_12.2.1, scope := fd_12.2.2, globals := 3, closure := [], defaults := Value.none, kwdefaults := Value.none, pyModule := Value.str (Str.ofString "law_np0194_01") 570, code := Value.ref 316 } }) ::
  (nat_lit 318, { cls := Value.type "tuple", data := Data.seq #[] }) ::
  (nat_lit 320, { cls := Value.type "tuple", data := Data.seq #[Value.str (Str.ofString "world") 606, Value.str (Str.ofString "found") 607, Value.str (Str.ofString "txg") 608] }) ::
  (nat_lit 321, { cls := Value.type "tuple", data := Data.seq #[] }) ::
  (nat_lit 323, { cls := Value.type "code", data := Data.fields #[Value.str (Str.ofString "_law_given") 603, Value.str (Str.ofString "_law_given") 604, Value.str (Str.ofString "/claim/cut.py") 605, Value.int 213 0, Value.int 1 0, Value.int 0 0, Value.int 0 0, Value.int 3 0, Value.ref 318, Value.bool true, Value.int 181 0, Value.ref 319, Value.none, Value.ref 320, Value.ref 321, Value.ref 322, Value.int 609 0, Value.int 213 0, Value.str (Str.ofString "/claim/cut.py") 610] }) ::
  (nat_lit 324, { cls := Value.type "function", data := Data.func { name := Str.ofString "_law_given", qualname := Str.ofString "_law_given", params := fd_13.1, body := FuncBody.stmts fd_13.2.1, scope := fd_13.2.2, globals := 3, closure := [], defaults := Value.none, kwdefaults := Value.none, pyModule := Value.str (Str.ofString "law_np0194_01") 570, code := Value.ref 323 } }) ::
  (nat_lit 325, { cls := Value.type "tuple", data := Data.seq #[] }) ::
  (nat_lit 327, { cls := Value.type "tuple", data := Data.seq #[Value.str (Str.ofString "world") 615, Value.str (Str.ofString "way") 616, Value.str (Str.ofString "y") 617, Value.str (Str.ofString "z") 618, Value.str (Str.ofString "sector") 619, Value.str (Str.ofString "count") 620, Value.str (Str.ofString "numbers") 621, Value.str (Str.ofString "txg") 622] }) ::
  (nat_lit 328, { cls := Value.type "tuple", data := Data.seq #[] }) ::
  (nat_lit 330, { cls := Value.type "code", data := Data.fields #[Value.str (Str.ofString "_law_due") 612, Value.str (Str.ofString "_law_due") 613, Value.str (Str.ofString "/claim/cut.py") 614, Value.int 218 0, Value.int 4 0, Value.int 0 0, Value.int 0 0, Value.int 3 0, Value.ref 325, Value.bool true, Value.int 181 0, Value.ref 326, Value.none, Value.ref 327, Value.ref 328, Value.ref 329, Value.int 623 0, Value.int 218 0, Value.str (Str.ofString "/claim/cut.py") 624] }) ::
  (nat_lit 331, { cls := Value.type "function", data := Data.func { name := Str.ofString "_law_due", qualname := Str.ofString "_law_due", params := fd_14.1, body := FuncBody.stmts fd_14.2.1, scope := fd_14.2.2, globals := 3, closure := [], defaults := Value.none, kwdefaults := Value.none, pyModule := Value.str (Str.ofString "law_np0194_01") 570, code := Value.ref 330 } }) ::
  (nat_lit 332, { cls := Value.type "tuple", data := Data.seq #[] }) ::
  (nat_lit 334, { cls := Value.type "tuple", data := Data.seq #[Value.str (Str.ofString "slab") 629, Value.str (Str.ofString "world") 630, Value.str (Str.ofString "way") 631, Value.str (Str.ofString "y") 632, Value.str (Str.ofString "z") 633, Value.str (Str.ofString "sector") 634, Value.str (Str.ofString "count") 635, Value.str (Str.ofString "txg") 636] }) ::
  (nat_lit 335, { cls := Value.type "tuple", data := Data.seq #[] }) ::
  (nat_lit 337, { cls := Value.type "code", data := Data.fields #[Value.str (Str.ofString "_law_told") 626, Value.str (Str.ofString "_law_told") 627, Value.str (Str.ofString "/claim/cut.py") 628, Value.int 239 0, Value.int 5 0, Value.int 0 0, Value.int 0 0, Value.int 3 0, Value.ref 332, Value.bool true, Value.int 181 0, Value.ref 333, Value.none, Value.ref 334, Value.ref 335, Value.ref 336, Value.int 637 0, Value.int 239 0, Value.str (Str.ofString "/claim/cut.py") 638] }) ::
  (nat_lit 338, { cls := Value.type "function", data := Data.func { name := Str.ofString "_law_told", qualname := Str.ofString "_law_told", params := fd_15.1, body := FuncBody.stmts fd_15.2.1, scope := fd_15.2.2, globals := 3, closure := [], defaults := Value.none, kwdefaults := Value.none, pyModule := Value.str (Str.ofString "law_np0194_01") 570, code := Value.ref 337 } }) ::
  (nat_lit 339, { cls := Value.type "tuple", data := Data.seq #[] }) ::
  (nat_lit 342, { cls := Value.type "code", data := Data.fields #[Value.str (Str.ofString "_law_is_same") 640, Value.str (Str.ofString "_law_is_same") 641, Value.str (Str.ofString "/claim/cut.py") 642, Value.int 253 0, Value.int 4 0, Value.int 0 0, Value.int 0 0, Value.int 3 0, Value.ref 339, Value.bool true, Value.int 181 0, Value.ref 340, Value.none, Value.none, Value.none, Value.ref 341, Value.int 643 0, Value.int 253 0, Value.str (Str.ofString "/claim/cut.py") 644] }) ::
  (nat_lit 343, { cls := Value.type "function", data := Data.func { name := Str.ofString "_law_is_same", qualname := Str.ofString "_law_is_same", params := fd_16.1, body := FuncBody.stmts fd_16.2.1, scope := fd_16.2.2, globals := 3, closure := [], defaults := Value.none, kwdefaults := Value.none, pyModule := Value.str (Str.ofString "law_np0194_01") 570, code := Value.ref 342 } }) ::
  (nat_lit 344, { cls := Value.type "tuple", data := Data.seq #[] }) ::
  (nat_lit 346, { cls := Value.type "tuple", data := Data.seq #[Value.str (Str.ofString "slab") 649, Value.str (Str.ofString "told") 650, Value.str (Str.ofString "count") 651] }) ::
  (nat_lit 347, { cls := Value.type "tuple", data := Data.seq #[] }) ::
  (nat_lit 349, { cls := Value.type "code", data := Data.fields #[Value.str (Str.ofString "_law_takes_none") 646, Value.str (Str.ofString "_law_takes_none") 647, Value.str (Str.ofString "/claim/cut.py") 648, Value.int 265 0, Value.int 1 0, Value.int 0 0, Value.int 0 0, Value.int 3 0, Value.ref 344, Value.bool true, Value.int 181 0, Value.ref 345, Value.none, Value.ref 346, Value.ref 347, Value.ref 348, Value.int 652 0, Value.int 265 0, Value.str (Str.ofString "/claim/cut.py") 653] }) ::
  (nat_lit 350, { cls := Value.type "function", data := Data.func { name := Str.ofString "_law_takes_none", qualname := Str.ofString "_law_takes_none", params := fd_17.1, body := FuncBody.stmts fd_17.2.1, scope := fd_17.2.2, globals := 3, closure := [], defaults := Value.none, kwdefaults := Value.none, pyModule := Value.str (Str.ofString "law_np0194_01") 570, code := Value.ref 349 } }) ::
  (nat_lit 351, { cls := Value.type "tuple", data := Data.seq #[] }) ::
  (nat_lit 353, { cls := Value.type "tuple", data := Data.seq #[Value.str (Str.ofString "script") 658, Value.str (Str.ofString "first") 659, Value.str (Str.ofString "world") 660, Value.str (Str.ofString "slab") 661, Value.str (Str.ofString "digits") 662, Value.str (Str.ofString "k") 663, Value.str (Str.ofString "x") 664, Value.str (Str.ofString "y") 665, Value.str (Str.ofString "z") 666, Value.str (Str.ofString "way") 667, Value.str (Str.ofString "told") 668] }) ::
  (nat_lit 354, { cls := Value.type "tuple", data := Data.seq #[] }) ::
  (nat_lit 356, { cls := Value.type "code", data := Data.fields #[Value.str (Str.ofString "law") 655, Value.str (Str.ofString "law") 656, Value.str (Str.ofString "/claim/cut.py") 657, Value.int 273 0, Value.int 1 0, Value.int 0 0, Value.int 0 0, Value.int 3 0, Value.ref 351, Value.bool true, Value.int 181 0, Value.ref 352, Value.none, Value.ref 353, Value.ref 354, Value.ref 355, Value.int 669 0, Value.int 273 0, Value.str (Str.ofString "/claim/cut.py") 670] }) ::
  (nat_lit 357, { cls := Value.type "function", data := Data.func { name := Str.ofString "law", qualname := Str.ofString "law", params := fd_18.1, body := FuncBody.stmts fd_18.2.1, scope := fd_18.2.2, globals := 3, closure := [], defaults := Value.none, kwdefaults := Value.none, pyModule := Value.str (Str.ofString "law_np0194_01") 570, code := Value.ref 356 } }) :: []
noncomputable def KA : List Addr := 2 :: 3 :: 15 :: 17 :: 18 :: 20 :: 21 :: 22 :: 29 :: 31 :: 32 :: 34 :: 35 :: 36 :: 37 :: 38 :: 39 :: 42 :: 49 :: 50 :: 51 :: 61 :: 62 :: 63 :: 65 :: 66 :: 68 :: 69 :: 70 :: 72 :: 73 :: 75 :: 76 :: 77 :: 79 :: 80 :: 82 :: 83 :: 84 :: 86 :: 87 :: 89 :: 90 :: 91 :: 93 :: 94 :: 96 :: 97 :: 98 :: 101 :: 102 :: 103 :: 106 :: 107 :: 108 :: 110 :: 111 :: 113 :: 114 :: 115 :: 117 :: 118 :: 120 :: 121 :: 122 :: 123 :: 125 :: 126 :: 128 :: 129 :: 130 :: 133 :: 134 :: 135 :: 137 :: 138 :: 140 :: 141 :: 142 :: 144 :: 145 :: 147 :: 148 :: 149 :: 151 :: 152 :: 154 :: 155 :: 156 :: 158 :: 159 :: 161 :: 162 :: 163 :: 165 :: 166 :: 168 :: 169 :: 170 :: 172 :: 173 :: 175 :: 176 :: 177 :: 179 :: 180 :: 182 :: 183 :: 184 :: 185 :: 186 :: 187 :: 188 :: 198 :: 200 :: 201 :: 203 :: 204 :: 205 :: 207 :: 208 :: 210 :: 211 :: 212 :: 214 :: 215 :: 217 :: 218 :: 219 :: 221 :: 222 :: 224 :: 225 :: 226 :: 229 :: 230 :: 231 :: 233 :: 234 :: 236 :: 237 :: 238 :: 241 :: 242 :: 243 :: 245 :: 246 :: 248 :: 249 :: 250 :: 252 :: 253 :: 255 :: 256 :: 257 :: 259 :: 260 :: 262 :: 263 :: 264 :: 266 :: 267 :: 269 :: 270 :: 271 :: 273 :: 274 :: 276 :: 277 :: 278 :: 280 :: 281 :: 283 :: 284 :: 285 :: 286 :: 287 :: 288 :: 289 :: 292 :: 294 :: 295 :: 297 :: 298 :: 299 :: 302 :: 303 :: 304 :: 306 :: 307 :: 309 :: 310 :: 311 :: 313 :: 314 :: 316 :: 317 :: 318 :: 320 :: 321 :: 323 :: 324 :: 325 :: 327 :: 328 :: 330 :: 331 :: 332 :: 334 :: 335 :: 337 :: 338 :: 339 :: 342 :: 343 :: 344 :: 346 :: 347 :: 349 :: 350 :: 351 :: 353 :: 354 :: 356 :: 357 :: []
theorem KE : ∀ P, KA = (KH P).map (·.1) := fun _ => by kernel_rfl
noncomputable def QV : Program := { PW with main := { PW.main with body := [stAt PW.main.body 18] } }
noncomputable def LO : List Str := ["_wall", "PoolFault", "Misused", "Ranges", "Slab", "_law_runs", "_law_place", "_law_taken", "_law_all", "_law_given", "_law_due", "_law_told", "_law_is_same", "_law_takes_none"]
noncomputable def EV : Env := { scope := PW.main.scope, locals := mainNs, globals := mainNs, cells := [], code := .ref 13, frame := some 14 }
noncomputable def n13 (P : Params) : Obj := { cls := Value.type "code", data := Data.fields #[Value.str (Str.ofString "<module>") 182, Value.str (Str.ofString "<module>") 183, Value.str (Str.ofString "/claim/cut.py") 184, Value.int 1 0, Value.int 0 0, Value.int 0 0, Value.int 0 0, Value.int 0 0, Value.ref 11, Value.bool false, Value.int 181 0, Value.ref 12, Value.none, Value.none, Value.none, Value.none, Value.int 185 0, Value.int 1 0, Value.str (Str.ofString "/claim/cut.py") 186] }
noncomputable def n14 (P : Params) : Obj := { cls := Value.type "frame", slots := #[some (Value.ref 13), some (Value.ref 3), some (Value.ref 3), none, some (Value.str (Str.ofString "__main__") 164), none, some (Value.ref 0)] }
noncomputable def SA (w : World) (os : OsState) : SharedT := ⟨(fun (P : Params) => ((.node (boot_o_0 P) (.node (boot_o_1 P) (.node (boot_o_3 P) (.node (boot_o_7 P) .nil .nil) (.node ({ cls := Value.type "tuple", data := Data.seq #[] }) .nil .nil)) (.node (boot_o_5 P) (.node (boot_o_9 P) .nil .nil) (.node (n13 P) .nil .nil))) (.node (boot_o_2 P) (.node (boot_o_4 P) (.node (boot_o_8 P) .nil .nil) (.node ({ cls := Value.none, data := Data.fields #[] }) .nil .nil)) (.node (boot_o_6 P) (.node (boot_o_10 P) .nil .nil) (.node (n14 P) .nil .nil)))) : BT)) w.params, 15, {}, #[], {}, 187, os⟩
noncomputable abbrev P0 : Pos := ⟨0, 0, 0, 0⟩
noncomputable abbrev PF : Pos := ⟨273, 0, 286, 32⟩
noncomputable abbrev BE : List Stmt := behindTheImports PW
noncomputable abbrev CD : Code := .body BE EV
noncomputable abbrev XT (s : Shared) : Bool := xlAt QV [] s && recOk (RowW.records PySem.Challenge.rw_np0194_01.row.toRowW) s
noncomputable abbrev HK : Hook := kHook KH KA KE
theorem left_T {p q : Program} {loose : List Str} {Xt : Shared → Bool} {α : Type} {Yf : Shared → α} {Ya : World → α} {N : Nat} {g0 : Bool} {H₀ : Params → Heap} {gs₀ : Array GenState} {d₀ : Drawn} {k₀ m₀ n1 n2 : Nat} {ann : Option Value}
    {S : World → OsState → SharedT} {b : List Stmt} {env : Env} {qp p0 pf : Pos}
    (o : ∀ w : World, Option.map (fun s => (s.heap, s.gens, s.drawn, s.toks)) (fencedOpening treeTable p w N) = some (H₀ w.params, gs₀, d₀, k₀))
    (sz : ∀ w : World, ((H₀ w.params).isNs mainGlobals && gs₀.size == 0, (H₀ w.params).objs.size, (H₀ w.params).nsMap mainGlobals (Str.ofString "__annotations__")) = (true, m₀, ann))
    (pre : ∀ (w : World) (os : OsState), topGo treeTable p w m₀ ann n1 ⟨H₀ w.params, gs₀, d₀, k₀, os⟩ (topStub p) = some ((S w os).abs, ⟨denote treeTable (.body b env), .body b env, p0, [topFrame qp]⟩))
    (blk : ∀ (w : World) (s : Shared), segRun treeTable p w m₀ ann 1 1 s (blockOf b env (.body b env) p0 [topFrame qp]) = some (.next, s, .body b env, p0))
    (fin : ∀ (w : World) (s : Shared), topRun treeTable p w m₀ ann 2 s (restOf [] env (.body b env) pf [topFrame qp]) = some s)
    (le : Nat.ble (n1 + (1 + (n2 + 2))) N = true)
    (h : ∀ w : World, (fun os => (segRunT treeTable p w m₀ ann 1 n2 (S w os) (piecesOf b env (.body b env) p0 [topFrame qp])).map (fun r => (r.1, r.2.2, (staticsOk (importedModules p.main.body) (H₀ w.params) r.2.1.abs.heap && namesBound p r.2.1.abs.heap && gensDone r.2.1.abs && laidKept (H₀ w.params) r.2.1.abs.heap), openSeen q loose (importedModules p.main.body) Xt g0 r.2.1.abs, Yf r.2.1.abs))) = fun _ => some (.next, (.body b env, pf), true, openGood q loose, Ya w)) : LeftO p q loose Xt Yf Ya N g0 := by
  intro w
  obtain ⟨s₀, e, hv⟩ := Option.map_eq_some_iff.mp (o w)
  obtain ⟨heap, gens, drawn, toks, os⟩ := s₀
  simp only [Prod.mk.injEq] at hv
  obtain ⟨rfl, rfl, rfl, rfl⟩ := hv
  have hs := sz w
  simp only [Prod.mk.injEq] at hs
  obtain ⟨h1, h2, h3⟩ := hs
  obtain ⟨⟨f, s₁, c, pe⟩, r1, r2⟩ := Option.map_eq_some_iff.mp (congrFun (h w) os)
  simp only [Prod.mk.injEq] at r2
  obtain ⟨rfl, ⟨rfl, rfl⟩, r3, r4, r5⟩ := r2
  have k0 := fin w s₁.abs
  have k1 := piece_app (rest := []) (segRun_of r1) k0
  rw [List.append_nil] at k1
  have k2 := piece_block (blk w (S w os).abs) k1
  have k3 := go_top (pre w os) k2
  have k4 := topRun_mono (N - (n1 + (1 + (n2 + 2)))) _ _ _ _ k3
  rw [show n1 + (1 + (n2 + 2)) + (N - (n1 + (1 + (n2 + 2)))) = N by have := Nat.le_of_ble_eq_true le; omega] at k4
  unfold openEnds
  rw [e]
  show Option.map _ (topFrom treeTable p w N _) = _
  unfold topFrom
  rw [h1]
  show Option.map _ ((topRun _ _ _ _ _ _ _ _).bind _) = _
  rw [show ({ heap := H₀ w.params, gens := gens, drawn := drawn, toks := toks, os := os } : Shared).heap.objs.size = m₀ from h2]
  rw [show ({ heap := H₀ w.params, gens := gens, drawn := drawn, toks := toks, os := os } : Shared).heap.nsMap mainGlobals (Str.ofString "__annotations__") = ann from h3, k4]
  show Option.map _ (match (staticsOk (importedModules p.main.body) (H₀ w.params) s₁.abs.heap && namesBound p s₁.abs.heap && gensDone s₁.abs && laidKept (H₀ w.params) s₁.abs.heap) with | true => some s₁.abs | false => none) = _
  rw [r3]
  show some (_, _) = _
  rw [r4, r5]
theorem l_open : ∀ w : World, Option.map (fun s => (s.heap, s.gens, s.drawn, s.toks)) (fencedOpening treeTable PW w 4572) = some (boot_heap w.params, (#[] : Array GenState), boot_drawn, boot_toks) :=
  boot_open (p := PW) (by kernel_rfl) (by kernel_rfl) (fun s => by kernel_rfl)
theorem l_size : ∀ w : World, ((boot_heap w.params).isNs mainGlobals && (#[] : Array GenState).size == 0, (boot_heap w.params).objs.size, (boot_heap w.params).nsMap mainGlobals (Str.ofString "__annotations__")) = (true, 11, some (.ref 6)) := fun w => by kernel_rfl
theorem l_pre : ∀ (w : World) (os : OsState), topGo treeTable PW w 11 (some (.ref 6)) 12 ⟨boot_heap w.params, #[], boot_drawn, boot_toks, os⟩ (topStub PW) = some ((SA w os).abs, ⟨denote treeTable CD, CD, P0, [topFrame P0]⟩) := by
  rewrite [PySem.W.Fast.te14364793385576792824]
  intro w os
  kernel_rfl
theorem l_blk : ∀ (w : World) (s : Shared), segRun treeTable PW w 11 (some (.ref 6)) 1 1 s (blockOf BE EV CD P0 [topFrame P0]) = some (.next, s, CD, P0) := fun w s => by kernel_rfl
theorem l_fin : ∀ (w : World) (s : Shared), topRun treeTable PW w 11 (some (.ref 6)) 2 s (restOf [] EV CD PF [topFrame P0]) = some s := fun w s => by kernel_rfl
theorem l_run : ∀ w : World, (fun os => (segRunT treeTable PW w 11 (some (.ref 6)) 1 2224 (SA w os) (piecesOf BE EV CD P0 [topFrame P0])).map (fun r => (r.1, r.2.2, (staticsOk (importedModules PW.main.body) (boot_heap w.params) r.2.1.abs.heap && namesBound PW r.2.1.abs.heap && gensDone r.2.1.abs && laidKept (boot_heap w.params) r.2.1.abs.heap), openSeen QV LO (importedModules PW.main.body) XT true r.2.1.abs, HK.obs r.2.1.abs))) = fun _ => some (.next, (CD, PF), true, openGood QV LO, HK.val w) := by
  rewrite [PySem.W.Fast.te14364793385576792824, PySem.W.Fast.te10110043849684766642, PySem.W.Fast.te4187177175401517315, PySem.W.Fast.te5923862056798008813]
  intro w
  kernel_rfl
theorem l_left : LeftO PW QV LO XT HK.obs HK.val 4572 := left_T l_open l_size l_pre l_blk l_fin (by kernel_rfl) l_run
end Mine
end

section
open PySem PySem.W PySem.Calls PyProof.Rows
namespace Mine
noncomputable abbrev RW : OpenLaw := PySem.Challenge.rw_np0194_01
theorem l_said : RW.wellSaid = true := (congrFun PySem.W.Fast.te9446332074065402090 RW).trans (by kernel_rfl)
theorem hd (walk : WalkO QV LO (XL QV []) HK.says RW.row.toRowW ⟨"law", fd_18.1, fd_18.2.1, fd_18.2.2, PF⟩ [] fun f vs => PySem.call f vs) : RW.Holds := by
  refine holds_law l_said fun said => ?_
  refine PySem.W.holds_open (q := QV) (loose := LO) (Xt := XT) (XP := XL QV []) (Yf := HK.obs) (Ya := HK.val) (YP := HK.says) (N := 4572) l_left HK.of HK.keeps (fun s e => xl_of s (Bool.and_eq_true_iff.mp e).1) XL.keeps ?_ ?_ ?_ (fun s e => recFacts_of (Bool.and_eq_true_iff.mp e).2) ?_ said ?_ ⟨rfl, rfl, rfl, rfl, rfl, by decide +kernel⟩ ?_ walk
  · kernel_rfl
  · kernel_rfl
  · kernel_rfl
  · kernel_rfl
  · decide +kernel
  · exact ⟨[.list [.int 0]], by decide +kernel, by decide +kernel⟩
end Mine
end

section
open PySem PySem.W PySem.Calls PyProof.Rows
namespace Mine
structure Cfg where
  A₀ : Around
  base : Heap
  h₀ : Heap
  outer : List Env
  env : Env
  L : Addr
  p : Program
  loose : List Str
  mean : ExcName → Option Value
  mg : Str → Option Value
  mb : Str → Option Value
  g₀ : Array GenState
  o₀ : OsState
noncomputable abbrev Led := List (Addr × Obj)
noncomputable abbrev Loc := Str → Option Value
structure Cx (w : World) (c : Cfg) (A : Around) (n : Nat) (m : Loc) (led : Led) (s : Shared) : Prop where
  B : Below c.A₀ c.base c.outer c.h₀
  F : Fr c.h₀ c.L s.heap m
  N : News c.h₀ c.L s.heap led
  nd : (led.map (·.1)).Nodup
  X : (KH w.params).In c.h₀
  T : Top c.p c.loose c.mean c.mg c.mb c.h₀
  hA : A.frames = some (c.env :: c.outer)
  hf : c.env.frame = some c.L
  hk : c.env.scope.kind = .function
  hh : A.handled = none
  hd : A.depth + 20 * n < recursionLimit
  hu : A.units + 200 * n < cLine
  hg : s.gens = c.g₀
  ho : s.os = c.o₀
section
variable {prog : Program} {w : World} {c : Cfg} {A : Around} {n : Nat} {m : Loc} {led : Led} {s : Shared} {E : Value → Shared → Prop}
theorem Cx.step {m' : Loc} {led' : Led} {s' : Shared} (C : Cx w c A n m led s) (F : Fr c.h₀ c.L s'.heap m') (N : News c.h₀ c.L s'.heap led') (nd : (led'.map (·.1)).Nodup)
    (hg : s'.gens = s.gens := by rfl) (ho : s'.os = s.os := by rfl) : Cx w c A n m' led' s' :=
  ⟨C.B, F, N, nd, C.X, C.T, C.hA, C.hf, C.hk, C.hh, C.hd, C.hu, hg.trans C.hg, ho.trans C.ho⟩
theorem Cx.same {s' : Shared} (C : Cx w c A n m led s) (hh : s'.heap = s.heap := by rfl) (hg : s'.gens = s.gens := by rfl) (ho : s'.os = s.os := by rfl) : Cx w c A n m led s' :=
  C.step (by rw [hh]; exact C.F) (by rw [hh]; exact C.N) C.nd hg ho
theorem Cx.less {k : Nat} (C : Cx w c A n m led s) (h : k ≤ n) : Cx w c A k m led s :=
  ⟨C.B, C.F, C.N, C.nd, C.X, C.T, C.hA, C.hf, C.hk, C.hh, by have := C.hd; lia, by have := C.hu; lia, C.hg, C.ho⟩
theorem Cx.perm {led' : Led} (C : Cx w c A n m led s) (h : led.Perm led') : Cx w c A n m led' s :=
  C.step C.F (fun p hp => C.N p (h.mem_iff.mpr hp)) ((h.map _).nodup_iff.mp C.nd)
noncomputable abbrev binds0 (binds : List (Str × Value)) : Loc := fun y => binds.reverse.lookup y
noncomputable def fin (fl : Flow) : Value := match fl with | .ret v => v | _ => .none
theorem enter {Q : Value → Shared → Prop} {name qual : Str} {params : Arguments} {body : List Stmt} {scope : Scope} {dV kV doc pm cdv ct oc : Value} {an od : Option Addr} {osl : Array (Option Value)} {f : Addr} {pos : List Value} {kw : List (Str × Value)} {binds : List (Str × Value)}
    (C : Cx w c A (n + 1) m led s)
    (ho : (KH w.params).lookup f = some ⟨oc, od, .func (fnOf name qual params body scope dV kV doc pm an cdv ct), osl⟩) (hcd : codeIn (KH w.params) cdv qual = true)
    (hbind : BindsTo s (fnOf name qual params body scope dV kV doc pm an cdv ct) ⟨pos, kw⟩ binds) (hloc : ∀ y ∈ binds, scope.names.lookup y.1 = some .local)
    (h : ∀ c' A' s₁, Cx w c' A' n (binds0 binds) led s₁ → c'.env = envOf qual scope c'.L f cdv → A' = A.deeper (envOf qual scope c'.L f cdv) →
      wpAny (model prog w) A' (execs body (envOf qual scope c'.L f cdv))
        (fun fl s' => ∃ m' led', Cx w c' A' n m' led' s' ∧ (Cx w c A (n + 1) m led' s' → Q (fin fl) s'))
        (fun e s' => wpAny (model prog w) A' (leaving (envOf qual scope c'.L f cdv) e) (fun _ s'' => E e s'') (fun e' s'' => E e' s'') s') s₁)
    (hco : scope.isCoroutine = false) (hgen : scope.isGenerator = false) (hk : scope.kind = .function) (hcell : ∀ x ∈ scope.names, x.2 ≠ .cell) :
    wpAny (model prog w) A (call (.ref f) pos kw) Q E s := by
  refine wpAny_call ?_
  refine code_def C.B C.F C.X C.N C.T C.hA C.hf C.hk ho hcd (by have := C.hd; lia) hbind hloc (fun g L' h₁ FG F' N' B' X' T' => ?_) hco hgen hk hcell
  have C' : Cx w ⟨A, c.base, g, c.env :: c.outer, envOf qual scope L' f cdv, L', c.p, c.loose, c.mean, c.mg, c.mb, c.g₀, c.o₀⟩ (A.deeper (envOf qual scope L' f cdv)) n (binds0 binds) led { s with heap := h₁, toks := s.toks + binds.length } :=
    ⟨B', F', N', C.nd, X', T', Around.frames_deeper C.hA, rfl, hk, C.hh, by have := C.hd; show A.depth + 1 + _ < _; lia, by have := C.hu; show A.units + 3 + _ < _; lia, C.hg, C.ho⟩
  refine wpAny_mono (h _ _ _ C' rfl rfl) (fun fl s' q => ?_) fun _ _ q => q
  obtain ⟨m', led', C₁, k⟩ := q
  refine ⟨L', m', led', C₁.F, C₁.N, fun F₂ N₂ => ?_⟩
  exact k ⟨C.B, F₂, N₂, C₁.nd, C.X, C.T, C.hA, C.hf, C.hk, C.hh, C.hd, C.hu, C₁.hg, C₁.ho⟩
theorem enter0 {Q : Value → Shared → Prop} {name qual : Str} {params : Arguments} {body : List Stmt} {scope : Scope} {dV kV doc pm cdv ct oc : Value} {an od : Option Addr} {osl : Array (Option Value)} {f : Addr} {pos : List Value} {kw : List (Str × Value)} {binds : List (Str × Value)}
    (C : Cx w c A (n + 1) m led s)
    (ho : (KH w.params).lookup f = some ⟨oc, od, .func (fnOf name qual params body scope dV kV doc pm an cdv ct), osl⟩) (hcd : codeIn (KH w.params) cdv qual = true)
    (hbind : BindsTo s (fnOf name qual params body scope dV kV doc pm an cdv ct) ⟨pos, kw⟩ binds) (hloc : ∀ y ∈ binds, scope.names.lookup y.1 = some .local)
    (h : ∀ c' A' E' s₁, Cx w c' A' n (binds0 binds) led s₁ → ∀ Qr : Flow → Shared → Prop, (∀ fl s' m' led', Cx w c' A' n m' led' s' → (Cx w c A (n + 1) m led' s' → Q (fin fl) s') → Qr fl s') →
      wpAny (model prog w) A' (execs body (envOf qual scope c'.L f cdv)) Qr E' s₁)
    (hco : scope.isCoroutine = false) (hgen : scope.isGenerator = false) (hk : scope.kind = .function) (hcell : ∀ x ∈ scope.names, x.2 ≠ .cell) :
    wpAny (model prog w) A (call (.ref f) pos kw) Q E s :=
  enter C ho hcd hbind hloc (fun c' A' s₁ C' _ _ => h c' A' _ s₁ C' _ fun _ _ m' led' C k => ⟨m', led', C, k⟩) hco hgen hk hcell
end
end Mine
end

section
namespace Mine
noncomputable abbrev Rows := List (Int × Int)
noncomputable def Mem (rows : Rows) (x : Int) : Prop := ∃ r ∈ rows, r.1 ≤ x ∧ x < r.2
structure Rg (rows : Rows) : Prop where
  ne : ∀ r ∈ rows, r.1 < r.2
  ap : rows.Pairwise (fun r q => r.2 < q.1)
  bd : ∀ r ∈ rows, 0 ≤ r.1 ∧ r.2 ≤ 1000
structure Bh (rows : Rows) (x : Int) (b : Nat) : Prop where
  le : b ≤ rows.length
  lo : ∀ i (h : i < rows.length), i < b → rows[i].1 ≤ x
  hi : ∀ i (h : i < rows.length), b ≤ i → x < rows[i].1
noncomputable def Sorted (rows : Rows) : Prop := ∀ i j (hi : i < rows.length) (hj : j < rows.length), i < j → rows[i].1 < rows[j].1
theorem Sorted.le {rows : Rows} (h : Sorted rows) {i j : Nat} (hj : j < rows.length) (hij : i ≤ j) : (rows[i]'(Nat.lt_of_le_of_lt hij hj)).1 ≤ rows[j].1 := by
  rcases Nat.eq_or_lt_of_le hij with rfl | q
  · exact Int.le_refl _
  · exact Int.le_of_lt (h _ _ _ hj q)
namespace Rg
variable {rows : Rows}
theorem nei (h : Rg rows) (i : Nat) (hi : i < rows.length) : rows[i].1 < rows[i].2 := h.ne _ (List.getElem_mem hi)
theorem bdi (h : Rg rows) (i : Nat) (hi : i < rows.length) : 0 ≤ rows[i].1 ∧ rows[i].2 ≤ 1000 := h.bd _ (List.getElem_mem hi)
theorem api (h : Rg rows) {i j : Nat} (hi : i < rows.length) (hj : j < rows.length) (hij : i < j) : rows[i].2 < rows[j].1 := List.pairwise_iff_getElem.mp h.ap i j hi hj hij
theorem sorted (h : Rg rows) : Sorted rows := fun i j hi hj hij => Int.lt_trans (h.nei i hi) (h.api hi hj hij)
theorem e2 (h : Rg rows) {i j : Nat} (hi : i < rows.length) (hj : j < rows.length) (hij : i ≤ j) : rows[i].2 ≤ rows[j].2 := by
  rcases Nat.eq_or_lt_of_le hij with rfl | q
  · exact Int.le_refl _
  · have := h.api hi hj q; have := h.nei j hj; lia
theorem b2 (h : Rg rows) {i j : Nat} (hi : i < rows.length) (hj : j < rows.length) (hij : i ≤ j) : rows[i].1 ≤ rows[j].1 := h.sorted.le hj hij
theorem tail {r : Int × Int} (h : Rg (r :: rows)) : Rg rows := ⟨fun q hq => h.ne q (.tail _ hq), (List.pairwise_cons.mp h.ap).2, fun q hq => h.bd q (.tail _ hq)⟩
theorem len (h : Rg rows) : rows.length ≤ 500 := by
  have key : ∀ (rows : Rows) (a : Int), Rg rows → (∀ r ∈ rows, a < r.1) → a + 2 * rows.length ≤ 1000 ∨ rows = [] := by
    intro rows
    induction rows with
    | nil => intro a _ _; exact .inr rfl
    | cons r t ih =>
      intro a h ha
      left
      have h1 := ha r (.head _)
      have h2 := h.ne r (.head _)
      have h3 := h.bd r (.head _)
      rcases ih r.2 h.tail (List.pairwise_cons.mp h.ap).1 with q | q
      · rw [List.length_cons]; lia
      · subst q; simp only [List.length_cons, List.length_nil]; lia
  rcases key rows (-1) h (fun r hr => by have := h.bd r hr; omega) with q | q
  · lia
  · subst q; simp
end Rg
theorem mem_iff {rows : Rows} {x : Int} : Mem rows x ↔ ∃ i, ∃ h : i < rows.length, rows[i].1 ≤ x ∧ x < rows[i].2 := by
  constructor
  · rintro ⟨r, hr, h⟩
    obtain ⟨i, hi, rfl⟩ := List.getElem_of_mem hr
    exact ⟨i, hi, h⟩
  · rintro ⟨i, hi, h⟩
    exact ⟨_, List.getElem_mem hi, h⟩
noncomputable def Covers (rows : Rows) (b m : Int) : Prop := ∀ x, b ≤ x → x < b + m → Mem rows x
noncomputable def Meets (rows : Rows) (b m : Int) : Prop := ∃ x, b ≤ x ∧ x < b + m ∧ Mem rows x
theorem has_iff {rows : Rows} {b m : Int} {k : Nat} (h : Rg rows) (B : Bh rows b k) (hm : 0 < m) : (∃ hk : 0 < k, b + m ≤ (rows[k - 1]'(by have := B.le; omega)).2) ↔ Covers rows b m := by
  constructor
  · rintro ⟨hk, q⟩ x h1 h2
    have hl := B.le
    exact mem_iff.mpr ⟨k - 1, by lia, by have := B.lo (k - 1) (by omega) (by omega); omega, by omega⟩
  · intro cv
    obtain ⟨i, hi, h1, h2⟩ := mem_iff.mp (cv b (by lia) (by lia))
    have hik : i < k := by
      apply Nat.lt_of_not_le
      intro q
      have := B.hi i hi q
      lia
    have hl := B.le
    have hk : i = k - 1 := by
      rcases Nat.lt_or_ge i (k - 1) with q | q
      · have := h.api hi (by lia) q
        have := B.lo (k - 1) (by omega) (by lia)
        omega
      · lia
    subst hk
    refine ⟨by lia, ?_⟩
    refine Int.not_lt.mp fun q => ?_
    obtain ⟨j, hj, g1, g2⟩ := mem_iff.mp (cv (rows[k - 1].2) (by lia) (by omega))
    rcases Nat.lt_trichotomy j (k - 1) with z | z | z
    · have := h.api hj hi z; have := h.nei (k - 1) hi; lia
    · subst z; lia
    · have := h.api hi hj z; lia
theorem some_iff {rows : Rows} {b m : Int} {k : Nat} (h : Rg rows) (B : Bh rows (b + m - 1) k) (hm : 0 < m) : (∃ hk : 0 < k, b < (rows[k - 1]'(by have := B.le; omega)).2) ↔ Meets rows b m := by
  have hl := B.le
  constructor
  · rintro ⟨hk, q⟩
    have h1 := B.lo (k - 1) (by lia) (by lia)
    have h2 := h.nei (k - 1) (by omega)
    rcases Int.le_total b (rows[k - 1]'(by omega)).1 with z | z
    · exact ⟨(rows[k - 1]'(by omega)).1, z, by omega, mem_iff.mpr ⟨k - 1, by omega, by lia, by omega⟩⟩
    · exact ⟨b, by lia, by lia, mem_iff.mpr ⟨k - 1, by omega, by omega, by omega⟩⟩
  · rintro ⟨x, h1, h2, hm⟩
    obtain ⟨i, hi, g1, g2⟩ := mem_iff.mp hm
    have hik : i < k := by
      apply Nat.lt_of_not_le
      intro q
      have := B.hi i hi q
      lia
    refine ⟨by lia, ?_⟩
    have := h.e2 hi (j := k - 1) (by lia) (by lia)
    omega
theorem covers_zero {rows : Rows} {b : Int} : Covers rows b 0 := fun x h1 h2 => by lia
theorem meets_zero {rows : Rows} {b m : Int} (h : m ≤ 0) : ¬ Meets rows b m := by rintro ⟨x, h1, h2, _⟩; lia
theorem mem_append {a b : Rows} {x : Int} : Mem (a ++ b) x ↔ Mem a x ∨ Mem b x := by
  constructor
  · rintro ⟨r, hr, h⟩
    rcases List.mem_append.mp hr with q | q
    · exact .inl ⟨r, q, h⟩
    · exact .inr ⟨r, q, h⟩
  · rintro (⟨r, hr, h⟩ | ⟨r, hr, h⟩)
    · exact ⟨r, List.mem_append_left _ hr, h⟩
    · exact ⟨r, List.mem_append_right _ hr, h⟩
theorem mem_take {rows : Rows} {k : Nat} {r : Int × Int} (h : r ∈ rows.take k) : ∃ i, ∃ hi : i < rows.length, i < k ∧ rows[i] = r := by
  obtain ⟨i, hi, e⟩ := List.getElem_of_mem h
  rw [List.length_take] at hi
  rw [List.getElem_take] at e
  exact ⟨i, by omega, by lia, e⟩
theorem mem_drop {rows : Rows} {k : Nat} {r : Int × Int} (h : r ∈ rows.drop k) : ∃ i, ∃ hi : i < rows.length, k ≤ i ∧ rows[i] = r := by
  obtain ⟨i, hi, e⟩ := List.getElem_of_mem h
  rw [List.length_drop] at hi
  rw [List.getElem_drop] at e
  exact ⟨k + i, by omega, by lia, e⟩
theorem take_mem {rows : Rows} {k i : Nat} (hi : i < rows.length) (h : i < k) : rows[i] ∈ rows.take k := by
  have : i < (rows.take k).length := by rw [List.length_take]; lia
  have e : (rows.take k)[i] = rows[i] := List.getElem_take
  rw [← e]; exact List.getElem_mem this
theorem drop_mem {rows : Rows} {k i : Nat} (hi : i < rows.length) (h : k ≤ i) : rows[i] ∈ rows.drop k := by
  have : i - k < (rows.drop k).length := by rw [List.length_drop]; omega
  have e : (rows.drop k)[i - k] = rows[i] := by rw [List.getElem_drop]; congr 1; lia
  rw [← e]; exact List.getElem_mem this
theorem splice_rg {rows new : Rows} {low high : Nat} (h : Rg rows) (hn : Rg new)
    (h1 : ∀ i (hi : i < rows.length), i < low → ∀ r ∈ new, rows[i].2 < r.1) (h2 : ∀ i (hi : i < rows.length), high ≤ i → ∀ r ∈ new, r.2 < rows[i].1) (hle : low ≤ high) :
    Rg (rows.take low ++ new ++ rows.drop high) := by
  refine ⟨fun r hr => ?_, ?_, fun r hr => ?_⟩
  · rcases List.mem_append.mp hr with hr | hr
    · rcases List.mem_append.mp hr with hr | hr
      · exact h.ne r (List.mem_of_mem_take hr)
      · exact hn.ne r hr
    · exact h.ne r (List.mem_of_mem_drop hr)
  · rw [List.pairwise_append, List.pairwise_append]
    refine ⟨⟨h.ap.sublist (List.take_sublist _ _), hn.ap, fun a ha b hb => ?_⟩, h.ap.sublist (List.drop_sublist _ _), fun a ha b hb => ?_⟩
    · obtain ⟨i, hi, hlt, rfl⟩ := mem_take ha
      exact h1 i hi hlt b hb
    · obtain ⟨j, hj, hge, rfl⟩ := mem_drop hb
      rcases List.mem_append.mp ha with ha | ha
      · obtain ⟨i, hi, hlt, rfl⟩ := mem_take ha
        exact h.api hi hj (by lia)
      · exact h2 j hj hge a ha
  · rcases List.mem_append.mp hr with hr | hr
    · rcases List.mem_append.mp hr with hr | hr
      · exact h.bd r (List.mem_of_mem_take hr)
      · exact hn.bd r hr
    · exact h.bd r (List.mem_of_mem_drop hr)
theorem splice_mem {rows new : Rows} {low high : Nat} {x : Int} : Mem (rows.take low ++ new ++ rows.drop high) x ↔ Mem new x ∨ ∃ i, ∃ hi : i < rows.length, (i < low ∨ high ≤ i) ∧ rows[i].1 ≤ x ∧ x < rows[i].2 := by
  rw [mem_append, mem_append]
  constructor
  · rintro ((⟨r, hr, q⟩ | q) | ⟨r, hr, q⟩)
    · obtain ⟨i, hi, hlt, rfl⟩ := mem_take hr; exact .inr ⟨i, hi, .inl hlt, q⟩
    · exact .inl q
    · obtain ⟨i, hi, hge, rfl⟩ := mem_drop hr; exact .inr ⟨i, hi, .inr hge, q⟩
  · rintro (q | ⟨i, hi, z | z, q⟩)
    · exact .inl (.inr q)
    · exact .inl (.inl ⟨_, take_mem hi z, q⟩)
    · exact .inr ⟨_, drop_mem hi z, q⟩
theorem rg_one {b e : Int} (h : b < e) (h0 : 0 ≤ b) (h1 : e ≤ 1000) : Rg [(b, e)] := ⟨fun r hr => by simp at hr; subst hr; exact h, List.pairwise_singleton _ _, fun r hr => by simp at hr; subst hr; exact ⟨h0, h1⟩⟩
theorem rg_nil : Rg [] := ⟨fun r hr => (nomatch hr), .nil, fun r hr => (nomatch hr)⟩
theorem mem_one {b e x : Int} : Mem [(b, e)] x ↔ b ≤ x ∧ x < e := by
  constructor
  · rintro ⟨r, hr, q⟩; simp at hr; subst hr; exact q
  · intro q; exact ⟨_, .head _, q⟩
theorem mem_nil {x : Int} : ¬ Mem [] x := by rintro ⟨r, hr, _⟩; cases hr
structure Low (rows : Rows) (b : Int) (low : Nat) : Prop where
  le : low ≤ rows.length
  lo : ∀ i (h : i < rows.length), i < low → rows[i].2 < b
  hi : ∀ i (h : i < rows.length), low ≤ i → b ≤ rows[i].2
structure LowC (rows : Rows) (b : Int) (low : Nat) : Prop where
  le : low ≤ rows.length
  lo : ∀ i (h : i < rows.length), i < low → rows[i].2 ≤ b
  hi : ∀ i (h : i < rows.length), low ≤ i → b < rows[i].2
theorem put_ok {rows : Rows} {b e : Int} {low high : Nat} (h : Rg rows) (L : Low rows b low) (B : Bh rows e high) (hlt : b < e) (h0 : 0 ≤ b) (h1 : e ≤ 1000) :
    low ≤ high ∧ (∀ (q : low < high), Rg (rows.take low ++ [(min b (rows[low]'(by have := B.le; lia)).1, max e (rows[high - 1]'(by have := B.le; lia)).2)] ++ rows.drop high) ∧
      ∀ x, Mem (rows.take low ++ [(min b (rows[low]'(by have := B.le; omega)).1, max e (rows[high - 1]'(by have := B.le; omega)).2)] ++ rows.drop high) x ↔ Mem rows x ∨ (b ≤ x ∧ x < e)) ∧
    (low = high → Rg (rows.take low ++ [(b, e)] ++ rows.drop high) ∧ ∀ x, Mem (rows.take low ++ [(b, e)] ++ rows.drop high) x ↔ Mem rows x ∨ (b ≤ x ∧ x < e)) := by
  have hl := L.le
  have hh := B.le
  have hle : low ≤ high := by
    apply Nat.le_of_not_lt
    intro q
    have z1 := L.lo high (by lia) q
    have z2 := B.hi high (by omega) (Nat.le_refl _)
    have z3 := h.nei high (by omega)
    lia
  refine ⟨hle, fun q => ?_, fun q => ?_⟩
  · have n1 := h.nei low (by lia)
    have n2 := h.nei (high - 1) (by lia)
    have d1 := h.bdi low (by omega)
    have d2 := h.bdi (high - 1) (by omega)
    have L1 := L.hi low (by omega) (Nat.le_refl _)
    have B1 := B.lo (high - 1) (by omega) (by lia)
    constructor
    · refine splice_rg h (rg_one (by omega) (by omega) (by omega)) (fun i hi hlt r hr => ?_) (fun i hi hge r hr => ?_) hle
      · simp at hr; subst hr
        have := L.lo i hi hlt
        have := h.api hi (j := low) (by lia) hlt
        show _ < min _ _
        omega
      · simp at hr; subst hr
        have := B.hi i hi hge
        have := h.api (i := high - 1) (by lia) hi (by lia)
        show max _ _ < _
        omega
    · intro x
      rw [splice_mem, mem_one, mem_iff]
      constructor
      · rintro (⟨g1, g2⟩ | ⟨i, hi, _, g⟩)
        · by_cases c1 : b ≤ x
          · by_cases c2 : x < e
            · exact .inr ⟨c1, c2⟩
            · exact .inl ⟨high - 1, by lia, by omega, by omega⟩
          · exact .inl ⟨low, by lia, by omega, by omega⟩
        · exact .inl ⟨i, hi, g⟩
      · rintro (⟨i, hi, g1, g2⟩ | ⟨g1, g2⟩)
        · by_cases c1 : i < low
          · exact .inr ⟨i, hi, .inl c1, g1, g2⟩
          · by_cases c2 : high ≤ i
            · exact .inr ⟨i, hi, .inr c2, g1, g2⟩
            · have := h.b2 (i := low) (j := i) (by lia) hi (by lia)
              have := h.e2 (i := i) (j := high - 1) hi (by lia) (by lia)
              exact .inl ⟨by omega, by omega⟩
        · exact .inl ⟨by omega, by omega⟩
  · subst q
    constructor
    · refine splice_rg h (rg_one hlt h0 h1) (fun i hi hlt r hr => ?_) (fun i hi hge r hr => ?_) hle
      · simp at hr; subst hr; exact L.lo i hi hlt
      · simp at hr; subst hr; exact B.hi i hi hge
    · intro x
      rw [splice_mem, mem_one, mem_iff]
      constructor
      · rintro (g | ⟨i, hi, _, g⟩)
        · exact .inr g
        · exact .inl ⟨i, hi, g⟩
      · rintro (⟨i, hi, g⟩ | g)
        · exact .inr ⟨i, hi, by lia, g⟩
        · exact .inl g
theorem low_of {rows : Rows} {b : Int} {k : Nat} (h : Rg rows) (B : Bh rows b k) :
    (∀ q : 0 < k, b ≤ (rows[k - 1]'(by have := B.le; omega)).2 → Low rows b (k - 1)) ∧ ((∀ q : 0 < k, (rows[k - 1]'(by have := B.le; omega)).2 < b) → Low rows b k) := by
  have hl := B.le
  constructor
  · intro q z
    refine ⟨by lia, fun i hi hlt => ?_, fun i hi hge => ?_⟩
    · have := h.api hi (j := k - 1) (by omega) hlt
      have := B.lo (k - 1) (by lia) (by lia)
      omega
    · have := h.e2 (i := k - 1) (j := i) (by lia) hi hge
      omega
  · intro z
    refine ⟨by lia, fun i hi hlt => ?_, fun i hi hge => ?_⟩
    · have := h.e2 hi (j := k - 1) (by omega) (by omega)
      have := z (by lia)
      omega
    · have := B.hi i hi hge
      have := h.nei i hi
      lia
theorem lowc_of {rows : Rows} {b : Int} {k : Nat} (h : Rg rows) (B : Bh rows b k) :
    (∀ q : 0 < k, b < (rows[k - 1]'(by have := B.le; omega)).2 → LowC rows b (k - 1)) ∧ ((∀ q : 0 < k, (rows[k - 1]'(by have := B.le; omega)).2 ≤ b) → LowC rows b k) := by
  have hl := B.le
  constructor
  · intro q z
    refine ⟨by omega, fun i hi hlt => ?_, fun i hi hge => ?_⟩
    · have := h.api hi (j := k - 1) (by omega) hlt
      have := B.lo (k - 1) (by omega) (by omega)
      omega
    · have := h.e2 (i := k - 1) (j := i) (by omega) hi hge
      omega
  · intro z
    refine ⟨by omega, fun i hi hlt => ?_, fun i hi hge => ?_⟩
    · have := h.e2 hi (j := k - 1) (by omega) (by omega)
      have := z (by omega)
      omega
    · have := B.hi i hi hge
      have := h.nei i hi
      lia
noncomputable def leftOf (first b e last : Int) : Rows := (if first < b then [(first, b)] else []) ++ (if e < last then [(e, last)] else [])
theorem mem_left {first b e last x : Int} : Mem (leftOf first b e last) x ↔ (first ≤ x ∧ x < b) ∨ (e ≤ x ∧ x < last) := by
  unfold leftOf
  rw [mem_append]
  by_cases c1 : first < b
  · by_cases c2 : e < last
    · rw [if_pos c1, if_pos c2, mem_one, mem_one]
    · rw [if_pos c1, if_neg c2, mem_one]
      constructor
      · rintro (q | q); exact .inl q; exact absurd q mem_nil
      · rintro (q | q); exact .inl q; omega
  · by_cases c2 : e < last
    · rw [if_neg c1, if_pos c2, mem_one]
      constructor
      · rintro (q | q); exact absurd q mem_nil; exact .inr q
      · rintro (q | q); omega; exact .inr q
    · rw [if_neg c1, if_neg c2]
      constructor
      · rintro (q | q) <;> exact absurd q mem_nil
      · rintro (q | q) <;> omega
theorem rg_left {first b e last : Int} (hbe : b < e) (h0 : 0 ≤ first) (h1 : last ≤ 1000) (hb : b ≤ 1000) (he : 0 ≤ e) : Rg (leftOf first b e last) := by
  unfold leftOf
  refine ⟨fun r hr => ?_, ?_, fun r hr => ?_⟩
  · by_cases c1 : first < b <;> by_cases c2 : e < last <;> simp [c1, c2] at hr <;> (try rcases hr with rfl | rfl) <;> simp_all
  · by_cases c1 : first < b <;> by_cases c2 : e < last <;> simp [c1, c2, hbe]
  · by_cases c1 : first < b <;> by_cases c2 : e < last <;> simp [c1, c2] at hr <;> (try rcases hr with rfl | rfl) <;> (try subst hr) <;> simp <;> omega
theorem cut_ok {rows : Rows} {b e : Int} {low high : Nat} (h : Rg rows) (L : LowC rows b low) (B : Bh rows (e - 1) high) (hlt : b < e) :
    low ≤ high ∧ (∀ (q : low < high), Rg (rows.take low ++ leftOf (rows[low]'(by have := B.le; omega)).1 b e (rows[high - 1]'(by have := B.le; omega)).2 ++ rows.drop high) ∧
      ∀ x, Mem (rows.take low ++ leftOf (rows[low]'(by have := B.le; omega)).1 b e (rows[high - 1]'(by have := B.le; omega)).2 ++ rows.drop high) x ↔ Mem rows x ∧ ¬ (b ≤ x ∧ x < e)) ∧
    (low = high → ∀ x, Mem rows x → ¬ (b ≤ x ∧ x < e)) := by
  have hl := L.le
  have hh := B.le
  have hle : low ≤ high := by
    apply Nat.le_of_not_lt
    intro q
    have z1 := L.lo high (by omega) q
    have z2 := B.hi high (by omega) (Nat.le_refl _)
    have z3 := h.nei high (by omega)
    omega
  refine ⟨hle, fun q => ?_, fun q => ?_⟩
  · have n1 := h.nei low (by omega)
    have n2 := h.nei (high - 1) (by omega)
    have d1 := h.bdi low (by omega)
    have d2 := h.bdi (high - 1) (by omega)
    have L1 := L.hi low (by omega) (Nat.le_refl _)
    have B1 := B.lo (high - 1) (by omega) (by omega)
    constructor
    · refine splice_rg h (rg_left hlt d1.1 d2.2 (by omega) (by omega)) (fun i hi hlt r hr => ?_) (fun i hi hge r hr => ?_) hle
      · have := L.lo i hi hlt
        have := h.api hi (j := low) (by omega) hlt
        unfold leftOf at hr
        rcases List.mem_append.mp hr with hr | hr <;> split at hr <;> simp at hr <;> subst hr <;> simp <;> omega
      · have := B.hi i hi hge
        have := h.api (i := high - 1) (by omega) hi (by omega)
        unfold leftOf at hr
        rcases List.mem_append.mp hr with hr | hr <;> split at hr <;> simp at hr <;> subst hr <;> simp <;> omega
    · intro x
      rw [splice_mem, mem_left, mem_iff]
      constructor
      · rintro ((⟨g1, g2⟩ | ⟨g1, g2⟩) | ⟨i, hi, z | z, g⟩)
        · exact ⟨⟨low, by lia, by omega, by omega⟩, by lia⟩
        · exact ⟨⟨high - 1, by lia, by omega, by omega⟩, by lia⟩
        · exact ⟨⟨i, hi, g⟩, by have := L.lo i hi z; lia⟩
        · exact ⟨⟨i, hi, g⟩, by have := B.hi i hi z; lia⟩
      · rintro ⟨⟨i, hi, g1, g2⟩, nx⟩
        by_cases c1 : i < low
        · exact .inr ⟨i, hi, .inl c1, g1, g2⟩
        · by_cases c2 : high ≤ i
          · exact .inr ⟨i, hi, .inr c2, g1, g2⟩
          · have := h.b2 (i := low) (j := i) (by omega) hi (by omega)
            have := h.e2 (i := i) (j := high - 1) hi (by omega) (by omega)
            exact .inl (by omega)
  · subst q
    rintro x hx ⟨g1, g2⟩
    obtain ⟨i, hi, k1, k2⟩ := mem_iff.mp hx
    by_cases c1 : i < low
    · have := L.lo i hi c1; lia
    · have := B.hi i hi (by lia); lia
noncomputable def fitsAt (y least : Int) (r : Int × Int) : Bool := decide (max r.1 least + y ≤ r.2)
noncomputable def ffit (rows : Rows) (y least : Int) : Option Int := (rows.find? (fitsAt y least)).map fun r => max r.1 least
theorem find_at {α : Type} {p : α → Bool} : ∀ {l : List α} {i : Nat} (hi : i < l.length), (∀ j (hj : j < l.length), j < i → p l[j] = false) → p l[i] = true → l.find? p = some l[i]
  | [], _, hi, _, _ => absurd hi (Nat.not_lt_zero _)
  | a :: l, 0, _, _, h => List.find?_cons_of_pos h
  | a :: l, i + 1, hi, h, h' => by
    rw [List.find?_cons_of_neg (by have := h 0 (by simp) (by lia); simp at this; simp [this])]
    exact find_at (l := l) (i := i) (Nat.lt_of_succ_lt_succ hi) (fun j hj hji => h (j + 1) (by simpa using hj) (by lia)) h'
theorem ffit_drop {rows : Rows} {y least : Int} {b : Nat} (h : Rg rows) (B : Bh rows least b) (hy : 0 < y) : (rows.drop (b - 1)).find? (fitsAt y least) = rows.find? (fitsAt y least) := by
  have hb := B.le
  have e : rows.find? (fitsAt y least) = ((rows.take (b - 1)).find? (fitsAt y least)).or ((rows.drop (b - 1)).find? (fitsAt y least)) := by
    rw [← List.find?_append, List.take_append_drop]
  rw [e]
  have hn : (rows.take (b - 1)).find? (fitsAt y least) = none := by
    rw [List.find?_eq_none]
    intro r hr
    obtain ⟨i, hi, hlt, rfl⟩ := mem_take hr
    have h1 := h.api (i := i) (j := b - 1) hi (by omega) hlt
    have h2 := B.lo (b - 1) (by omega) (by omega)
    unfold fitsAt
    simp only [decide_eq_true_eq]
    omega
  rw [hn]; rfl
noncomputable def IsMax (xs : List Int) (M : Int) : Prop := M ∈ xs ∧ ∀ a ∈ xs, a ≤ M
theorem IsMax.uniq {xs : List Int} {M N : Int} (h : IsMax xs M) (g : IsMax xs N) : M = N := Int.le_antisymm (g.2 _ h.1) (h.2 _ g.1)
end Mine
end

section
open PySem PySem.W PySem.Calls PyProof.Rows
namespace Mine
noncomputable def upd (m : Loc) (x : Str) (v : Value) : Loc := fun y => if y = x then some v else m y
theorem upd_s {m : Loc} {x : Str} {v : Value} : upd m x v x = some v := if_pos rfl
theorem upd_n {m : Loc} {x y : Str} {v : Value} {r : Option Value} (h : y ≠ x) (k : m y = r) : upd m x v y = r := (if_neg h).trans k
section
variable {prog : Program} {w : World} {c : Cfg} {A : Around} {n : Nat} {m : Loc} {led : Led} {s : Shared} {E : Value → Shared → Prop}
theorem Cx.keeps {s' : Shared} (C : Cx w c A n m led s) (hk : ∀ b o, s.heap.get? b = some o → s'.heap.get? b = some o) (hg : s'.gens = s.gens := by rfl) (ho : s'.os = s.os := by rfl) : Cx w c A n m led s' :=
  C.step (C.F.grownK hk) (C.N.grown hk) C.nd hg ho
theorem Cx.ext {s' : Shared} {b : Addr} (C : Cx w c A n m led s) (he : Heap.ExtBut b s.heap s'.heap) (hb : s.heap.objs.size ≤ b) (hg : s'.gens = s.gens := by rfl) (ho : s'.os = s.os := by rfl) : Cx w c A n m led s' :=
  C.keeps (fun a o e => he a o (Nat.ne_of_lt (Nat.lt_of_lt_of_le (Heap.lt_size e) hb)) e) hg ho
theorem Cx.lt (C : Cx w c A n m led s) : ∀ p ∈ led, p.1 < s.heap.objs.size := fun p hp => Heap.lt_size (C.N p hp).1
theorem Cx.new {s' : Shared} {D : Addr} {o : Obj} (C : Cx w c A n m led s) (hk : ∀ b o, s.heap.get? b = some o → s'.heap.get? b = some o) (hD : s'.heap.get? D = some o) (e : D = s.heap.objs.size)
    (hg : s'.gens = s.gens := by rfl) (ho : s'.os = s.os := by rfl) : Cx w c A n m ((D, o) :: led) s' := by
  refine C.step (C.F.grownK hk) (news_pushed C.F C.N hk (by rw [← e]; exact hD) e) ?_ hg ho
  rw [List.map_cons, List.nodup_cons]
  refine ⟨fun h => ?_, C.nd⟩
  obtain ⟨p, hp, q⟩ := List.mem_map.mp h
  have := C.lt p hp
  rw [q, e] at this
  exact absurd this (Nat.lt_irrefl _)
theorem Cx.of_news {s' : Shared} {D : Addr} {o : Obj} (C : Cx w c A n m led s) (F : Fr c.h₀ c.L s'.heap m) (N : News c.h₀ c.L s'.heap ((D, o) :: led)) (l : ∀ p ∈ led, p.1 < D)
    (hg : s'.gens = s.gens := by rfl) (ho : s'.os = s.os := by rfl) : Cx w c A n m ((D, o) :: led) s' := by
  refine C.step F N ?_ hg ho
  rw [List.map_cons, List.nodup_cons]
  refine ⟨fun h => ?_, C.nd⟩
  obtain ⟨p, hp, q⟩ := List.mem_map.mp h
  have := l p hp
  rw [q] at this
  exact absurd this (Nat.lt_irrefl _)
theorem Cx.get {a : Addr} {o : Obj} (C : Cx w c A n m led s) (h : (a, o) ∈ led) : s.heap.get? a = some o := C.N.get h
theorem Cx.Xs (C : Cx w c A n m led s) : (KH w.params).In s.heap := C.X.keeps C.F.keep
theorem Cx.TR (C : Cx w c A n m led s) : TopRead c.p c.loose c.mg c.mb c.h₀ := topRead_of C.T
theorem Cx.lst {a : Addr} {items : Array Value} {k : Nat} (C : Cx w c A n m led s) (h : (a, listOf items k) ∈ led) : s.heap.IsList a items := ⟨_, C.get h, rfl, k, rfl⟩
theorem nm_l {nm : Str} {sc : Scope} {a : Addr} {cd : Value} {x : Str} {pos : Pos} {v : Value} {Q : Value → Shared → Prop} (C : Cx w c A n m led s) (hv : m x = some v) (k : Q v s)
    (hk : sc.kind = .function) (hl : (envOf nm sc c.L a cd).kindOf x = some .local) (hd : (x == ("__debug__" : Str)) = false) :
    wpAny (model prog w) A (eval (.Name x pos) (envOf nm sc c.L a cd)) Q E s := ld C.F hv k hk hl hd
theorem nm_g {nm : Str} {sc : Scope} {a : Addr} {cd : Value} {x : Str} {pos : Pos} {v : Value} {Q : Value → Shared → Prop} (C : Cx w c A n m led s) (e : nsIn (KH w.params) mainGlobals x = some (some v)) (k : Q v s)
    (hk : sc.kind = .function) (hl : (envOf nm sc c.L a cd).kindOf x = some .globalImplicit) (hd : (x == ("__debug__" : Str)) = false) :
    wpAny (model prog w) A (eval (.Name x pos) (envOf nm sc c.L a cd)) Q E s := name_K C.F C.X C.TR e k hk hl hd
theorem nm_b {nm : Str} {sc : Scope} {a : Addr} {cd : Value} {x : Str} {pos : Pos} {v : Value} {Q : Value → Shared → Prop} (C : Cx w c A n m led s) (e : nsIn (KH w.params) mainGlobals x = some none) (hv : bootBuiltins x = some v) (k : Q v s) (hn : x ≠ "__name__")
    (hk : sc.kind = .function) (hl : (envOf nm sc c.L a cd).kindOf x = some .globalImplicit) (hd : (x == ("__debug__" : Str)) = false) :
    wpAny (model prog w) A (eval (.Name x pos) (envOf nm sc c.L a cd)) Q E s := name_B C.F C.X C.TR e hv hn k hk hl hd
theorem st_l {nm : Str} {sc : Scope} {a : Addr} {cd : Value} {x : Str} {v : Value} {Q : Unit → Shared → Prop} (C : Cx w c A n m led s) (k : ∀ s, Cx w c A n (upd m x v) led s → Q () s)
    (hk : sc.kind = .function) (hl : (envOf nm sc c.L a cd).kindOf x = some .local) :
    wpAny (model prog w) A (storeName (envOf nm sc c.L a cd) x v) Q E s := stN C.F C.N (fun h' F' N' => k _ (C.step F' N' C.nd)) hk hl
theorem bd_l {nm : Str} {sc : Scope} {a : Addr} {cd : Value} {x : Str} {v : Value} {Q : Unit → Shared → Prop} (C : Cx w c A n m led s) (k : ∀ s, Cx w c A n (upd m x v) led s → Q () s)
    (hk : sc.kind = .function) (hl : (envOf nm sc c.L a cd).kindOf x = some .local) :
    wpAny (model prog w) A (bindName (envOf nm sc c.L a cd) x v) Q E s := bindName_ (st_l C k hk hl)
theorem k_int {env : Env} {i : Int} {k : Nat} {pos : Pos} {Q : Value → Shared → Prop} (C : Cx w c A n m led s) (h : ∀ t s, Cx w c A n m led s → Q (.int i t) s) : wpAny (model prog w) A (eval (.Constant (.int i) k pos) env) Q E s :=
  wpAny_Constant_int (h _ _ C.same)
theorem k_str {env : Env} {x : Str} {k : Nat} {pos : Pos} {Q : Value → Shared → Prop} (C : Cx w c A n m led s) (h : ∀ t s, Cx w c A n m led s → Q (.str x t) s) : wpAny (model prog w) A (eval (.Constant (.str x) k pos) env) Q E s :=
  Constant_str (h _ _ C.same)
theorem a_add {a b : Int} {t u : Tok} {Q : Value → Shared → Prop} (C : Cx w c A n m led s) (h : ∀ t s, Cx w c A n m led s → Q (.int (a + b) t) s) : wpAny (model prog w) A (binaryOp .Add (.int a t) (.int b u)) Q E s := add_int (h _ _ C.same)
theorem a_sub {a b : Int} {t u : Tok} {Q : Value → Shared → Prop} (C : Cx w c A n m led s) (h : ∀ t s, Cx w c A n m led s → Q (.int (a - b) t) s) : wpAny (model prog w) A (binaryOp .Sub (.int a t) (.int b u)) Q E s := sub_int (h _ _ C.same)
theorem a_half {a b : Int} {t u : Tok} {Q : Value → Shared → Prop} (C : Cx w c A n m led s) (hb : b ≠ 0) (hp : Builtin.divisionGoesByPylong a b = false) (h : ∀ t s, Cx w c A n m led s → Q (.int (a.fdiv b) t) s) : wpAny (model prog w) A (binaryOp .FloorDiv (.int a t) (.int b u)) Q E s := floordiv_int hb (h _ _ C.same) (.inl hp)
theorem mk_tup {vs : List Value} {Q : Value → Shared → Prop} (C : Cx w c A n m led s) (hz : vs.length ≤ 1000) (h : ∀ D s, Cx w c A n m ((D, { cls := .type "tuple", data := .seq vs.toArray }) :: led) s → Q (.ref D) s) : wpAny (model prog w) A (newTuple vs) Q E s :=
  newTuple_N C.F C.N (fun _ F' N' => h _ _ (C.of_news F' N' C.lt)) (by rw [sizeLine_eq]; lia)
theorem mk_list {vs : List Value} {Q : Value → Shared → Prop} (C : Cx w c A n m led s) (hz : vs.length ≤ 1000) (h : ∀ D s, Cx w c A n m ((D, listOf vs.toArray 0) :: led) s → Q (.ref D) s) : wpAny (model prog w) A (newList vs) Q E s :=
  newList_K C.F C.N (fun _ _ F' N' l => h _ _ (C.of_news F' N' l)) (by rw [sizeLine_eq]; omega)
theorem unpack_tup {t : Addr} {items : Array Value} {k j : Nat} {Q : List Value → Shared → Prop} (C : Cx w c A n m led s) (hm : (t, ({ cls := .type "tuple", data := .seq items k } : Obj)) ∈ led) (hn : j = items.size)
    (h : ∀ s, Cx w c A n m led s → Q items.toList s) : wpAny (model prog w) A (unpackItems (.ref t) j none) Q E s :=
  unpackItemsN_ C.F C.N ⟨_, C.get hm, rfl, k, rfl⟩ C.hh hn fun _ F' N' => h _ (C.step F' N' C.nd)
theorem b_len {l : Addr} {items : Array Value} {k : Nat} {Q : Value → Shared → Prop} (C : Cx w c A n m led s) (hm : (l, listOf items k) ∈ led) (hz : items.size ≤ 100000) (h : ∀ t s, Cx w c A n m led s → Q (.int items.size t) s) :
    wpAny (model prog w) A (call (.builtin "len") [.ref l]) Q E s := len_list (C.lst hm) (by lia) (h _ _ C.same)
noncomputable abbrev rgDict (hs : Int) (tk : Tok) (l : Addr) (k : Nat) : Obj := dictOf [⟨hs, .str (Str.ofString "rows") tk, .ref l⟩] k
inductive RgAt (led : Led) (r l : Addr) : Prop where
  | mk (dx : Addr) (hs : Int) (tk : Tok) (k : Nat) (hr : (r, instObj 186 dx) ∈ led) (hd : (dx, rgDict hs tk l k) ∈ led)
theorem RgAt.mono {led led' : Led} {r l : Addr} (h : RgAt led r l) (k : ∀ p ∈ led, p ∈ led') : RgAt led' r l := let ⟨dx, hs, tk, j, a, b⟩ := h; ⟨dx, hs, tk, j, k _ a, k _ b⟩
theorem RgAt.inst {r l : Addr} (C : Cx w c A n m led s) (h : RgAt led r l) : ∃ dx hs tk k, InstAt s.heap r (instObj 186 dx) 186 (some (rgDict hs tk l k)) :=
  let ⟨dx, hs, tk, j, a, b⟩ := h; ⟨dx, hs, tk, j, InstAt.of_news C.N a b⟩
end
example (P : Params) : (PySem.Challenge.rw_np0194_01, KH P) = (PySem.Challenge.rw_np0194_01, KH P) := by k_fill; rfl
section
variable {prog : Program} {w : World} {c : Cfg} {A : Around} {n : Nat} {m : Loc} {led : Led} {s : Shared} {E : Value → Shared → Prop}
theorem at_rows {r l : Addr} {b : Bool} {Q : Value → Shared → Prop} (C : Cx w c A n m led s) (h : RgAt led r l) (k : ∀ s, Cx w c A n m led s → Q (.ref l) s) : wpAny (model prog w) A (getAttr (.ref r) (Str.ofString "rows") b) Q E s := by
  obtain ⟨dx, hs, tk, j, I⟩ := h.inst C
  exact get_own C.F C.X I (by k_is) (by k_is) (by k_is) (by k_is) rfl rfl (k _ C.same)
end
structure OpV {α : Type} (Q Q' : α → Shared → Prop) : Prop where
  run : ∀ v s, Q v s → Q' v s
theorem opv {M : Model} {A : Around} {α : Type} {t : Sem α} {Q : α → Shared → Prop} {E : Value → Shared → Prop} {s : Shared} (h : ∀ Q' : α → Shared → Prop, OpV Q Q' → wpAny M A t Q' E s) : wpAny M A t Q E s := h Q ⟨fun _ _ h => h⟩
theorem opr {α : Type} {Q Q' : α → Shared → Prop} (h : OpV Q Q') {v : α} {s : Shared} (k : Q v s) : Q' v s := h.run v s k
structure OpN (M : Model) (A : Around) (ss : List Stmt) (env : Env) (Q : Flow → Shared → Prop) (E : Value → Shared → Prop) (Q' : Flow → Shared → Prop) : Prop where
  next : ∀ s, wpAny M A (execs ss env) Q E s → Q' .next s
  leave : ∀ f s, f ≠ .next → Q f s → Q' f s
section
variable {M : Model} {A : Around} {ss : List Stmt} {env : Env} {Q Q' : Flow → Shared → Prop} {E : Value → Shared → Prop} {s : Shared}
theorem xs_cons {st : Stmt} (h : ∀ Q' : Flow → Shared → Prop, OpN M A ss env Q E Q' → wpAny M A (exec st env) Q' E s) : wpAny M A (execs (st :: ss) env) Q E s :=
  wpAny_execs_cons (h _ ⟨fun _ h => h, fun f _ hf h => by cases f with | next => exact absurd rfl hf | _ => exact h⟩)
theorem opn (h : OpN M A ss env Q E Q') (k : wpAny M A (execs ss env) Q E s) : Q' .next s := h.next s k
theorem opt {v : Value} (h : OpN M A ss env Q E Q') (k : Q (.ret v) s) : Q' (.ret v) s := h.leave _ s (fun q => nomatch q) k
theorem opb (h : OpN M A ss env Q E Q') (k : Q .brk s) : Q' .brk s := h.leave _ s (fun q => nomatch q) k
theorem opk (h : OpN M A ss env Q E Q') (k : Q .cont s) : Q' .cont s := h.leave _ s (fun q => nomatch q) k
end
end Mine
end

local macro_rules | `(tactic| walk_at "op") => `(tactic| all_goals (try refine Mine.opr (by assumption) ?_))
local macro_rules | `(tactic| walk_at "ar") => `(tactic| all_goals (try walk_at "rt"))
local macro_rules | `(tactic| walk_at "xc") => `(tactic| first | with_reducible refine Mine.xs_cons fun _ _ => ?_ | (refine Mine.opn (by assumption) ?_; walk_at "xc") | (refine Mine.opr (by assumption) ?_; walk_at "xc") | refine Mine.xs_cons fun _ _ => ?_)
local macro_rules | `(tactic| walk_at "xn") => `(tactic| first | with_reducible refine PySem.wpAny_execs_nil ?_ | (refine Mine.opn (by assumption) ?_; walk_at "xn") | (refine Mine.opr (by assumption) ?_; walk_at "xn") | refine PySem.wpAny_execs_nil ?_)
local macro_rules | `(tactic| walk_at "rt") => `(tactic| first | (refine Mine.opt (by assumption) ?_; try walk_at "rt") | (refine Mine.opr (by assumption) ?_; try walk_at "rt"))
local macro_rules | `(tactic| walk_at "lk") => `(tactic| first | exact Mine.upd_s | (refine Mine.upd_n (by decide) ?_; walk_at "lk") | assumption | rfl)
local macro_rules | `(tactic| walk_at "mm") => `(tactic| first | assumption | exact .head _ | (refine .tail _ ?_; walk_at "mm") | (refine List.mem_append_right _ ?_; walk_at "mm"))

section
open PySem PySem.W PySem.Calls PyProof.Rows
namespace Mine
section
variable {prog : Program} {w : World} {c : Cfg} {A : Around} {n : Nat} {m : Loc} {led : Led} {s : Shared} {E : Value → Shared → Prop}
theorem mt_rg {nm : Str} {f r l : Addr} {pl : Sem Bool} {Q : Value × List Value → Shared → Prop} (C : Cx w c A n m led s) (h : RgAt led r l) (hg : plainGet (KH w.params) 186 nm = true)
    (hf : findIn (KH w.params) (.ref 186) nm = some (some (.ref f))) (ht : isFn (KH w.params) (.ref f) = true) (hn : (Str.ofString "rows" == nm) = false) (k : Q (.ref f, [.ref r]) s) : wpAny (model prog w) A (getMethod (.ref r) nm pl) Q E s := by
  obtain ⟨dx, hs, tk, j, I⟩ := h.inst C
  refine method_inst C.F C.X I hg hf ht ?_ k
  show (match List.find? (fun e : DictEntry => e.key.isStr nm) [⟨hs, .str (Str.ofString "rows") tk, .ref l⟩] with | some e => some (some e.val) | none => if List.any [(⟨hs, .str (Str.ofString "rows") tk, .ref l⟩ : DictEntry)] (·.refKey) then none else some none) = some none
  rw [List.find?_cons_of_neg (by show ¬ (Str.ofString "rows" == nm) = true; rw [hn]; decide)]
  rfl
inductive SlObj (o : Obj) (b m : Int) (r wd : Addr) (cur : Int) : Prop where
  | mk (h1 h2 h3 h4 h5 : Int) (t1 t2 t3 t4 t5 k1 k2 k3 : Tok) (j : Nat) (e : o = dictOf [⟨h1, .str (Str.ofString "begin") t1, .int b k1⟩, ⟨h2, .str (Str.ofString "many") t2, .int m k2⟩, ⟨h3, .str (Str.ofString "free") t3, .ref r⟩, ⟨h4, .str (Str.ofString "waits") t4, .ref wd⟩, ⟨h5, .str (Str.ofString "cursor") t5, .int cur k3⟩] j)
noncomputable def slotNames : List Str := ["begin", "many", "free", "waits", "cursor"]
theorem mt_sl {nm : Str} {f x dS r wd : Addr} {o : Obj} {b mn cur : Int} {pl : Sem Bool} {Q : Value × List Value → Shared → Prop} (C : Cx w c A n m led s) (hx : (x, instObj 287 dS) ∈ led) (hD : (dS, o) ∈ led) (ho : SlObj o b mn r wd cur) (hg : plainGet (KH w.params) 287 nm = true)
    (hf : findIn (KH w.params) (.ref 287) nm = some (some (.ref f))) (ht : isFn (KH w.params) (.ref f) = true) (hn : slotNames.contains nm = false) (k : Q (.ref f, [.ref x]) s) : wpAny (model prog w) A (getMethod (.ref x) nm pl) Q E s := by
  obtain ⟨h1, h2, h3, h4, h5, t1, t2, t3, t4, t5, k1, k2, k3, j, rfl⟩ := ho
  refine method_inst C.F C.X (InstAt.of_news C.N hx hD) hg hf ht ?_ k
  simp only [slotNames, List.contains_cons, List.contains_nil, Bool.or_eq_false_iff, Bool.or_false] at hn
  have e : ∀ {a b : Str}, (a == b) = false → (b == a) = false := fun {a b} h => by
    rw [beq_eq_false_iff_ne] at h ⊢; exact fun q => h q.symm
  unfold getL
  simp only [List.find?_cons, Value.isStr, e hn.1, e hn.2.1, e hn.2.2.1, e hn.2.2.2.1, e hn.2.2.2.2, List.find?_nil]
  rfl
theorem mr_behind {r l : Addr} {pl : Sem Bool} {Q : Value × List Value → Shared → Prop} (C : Cx w c A n m led s) (h : RgAt led r l) (k : Q (.ref 76, [.ref r]) s) : wpAny (model prog w) A (getMethod (.ref r) (Str.ofString "behind") pl) Q E s :=
  mt_rg C h (by k_is) (by k_is) (by k_is) (by decide) k
theorem mr_want {r l : Addr} {pl : Sem Bool} {Q : Value × List Value → Shared → Prop} (C : Cx w c A n m led s) (h : RgAt led r l) (k : Q (.ref 83, [.ref r]) s) : wpAny (model prog w) A (getMethod (.ref r) (Str.ofString "want") pl) Q E s :=
  mt_rg C h (by k_is) (by k_is) (by k_is) (by decide) k
theorem mr_has {r l : Addr} {pl : Sem Bool} {Q : Value × List Value → Shared → Prop} (C : Cx w c A n m led s) (h : RgAt led r l) (k : Q (.ref 90, [.ref r]) s) : wpAny (model prog w) A (getMethod (.ref r) (Str.ofString "has") pl) Q E s :=
  mt_rg C h (by k_is) (by k_is) (by k_is) (by decide) k
theorem mr_some {r l : Addr} {pl : Sem Bool} {Q : Value × List Value → Shared → Prop} (C : Cx w c A n m led s) (h : RgAt led r l) (k : Q (.ref 97, [.ref r]) s) : wpAny (model prog w) A (getMethod (.ref r) (Str.ofString "some") pl) Q E s :=
  mt_rg C h (by k_is) (by k_is) (by k_is) (by decide) k
theorem mr_total {r l : Addr} {pl : Sem Bool} {Q : Value × List Value → Shared → Prop} (C : Cx w c A n m led s) (h : RgAt led r l) (k : Q (.ref 102, [.ref r]) s) : wpAny (model prog w) A (getMethod (.ref r) (Str.ofString "total") pl) Q E s :=
  mt_rg C h (by k_is) (by k_is) (by k_is) (by decide) k
theorem mr_longest {r l : Addr} {pl : Sem Bool} {Q : Value × List Value → Shared → Prop} (C : Cx w c A n m led s) (h : RgAt led r l) (k : Q (.ref 107, [.ref r]) s) : wpAny (model prog w) A (getMethod (.ref r) (Str.ofString "longest") pl) Q E s :=
  mt_rg C h (by k_is) (by k_is) (by k_is) (by decide) k
theorem mr_parts {r l : Addr} {pl : Sem Bool} {Q : Value × List Value → Shared → Prop} (C : Cx w c A n m led s) (h : RgAt led r l) (k : Q (.ref 114, [.ref r]) s) : wpAny (model prog w) A (getMethod (.ref r) (Str.ofString "parts") pl) Q E s :=
  mt_rg C h (by k_is) (by k_is) (by k_is) (by decide) k
theorem mr_first_fit {r l : Addr} {pl : Sem Bool} {Q : Value × List Value → Shared → Prop} (C : Cx w c A n m led s) (h : RgAt led r l) (k : Q (.ref 129, [.ref r]) s) : wpAny (model prog w) A (getMethod (.ref r) (Str.ofString "first_fit") pl) Q E s :=
  mt_rg C h (by k_is) (by k_is) (by k_is) (by decide) k
theorem mr_best_fit {r l : Addr} {pl : Sem Bool} {Q : Value × List Value → Shared → Prop} (C : Cx w c A n m led s) (h : RgAt led r l) (k : Q (.ref 134, [.ref r]) s) : wpAny (model prog w) A (getMethod (.ref r) (Str.ofString "best_fit") pl) Q E s :=
  mt_rg C h (by k_is) (by k_is) (by k_is) (by decide) k
theorem mr_add {r l : Addr} {pl : Sem Bool} {Q : Value × List Value → Shared → Prop} (C : Cx w c A n m led s) (h : RgAt led r l) (k : Q (.ref 141, [.ref r]) s) : wpAny (model prog w) A (getMethod (.ref r) (Str.ofString "add") pl) Q E s :=
  mt_rg C h (by k_is) (by k_is) (by k_is) (by decide) k
theorem mr_take {r l : Addr} {pl : Sem Bool} {Q : Value × List Value → Shared → Prop} (C : Cx w c A n m led s) (h : RgAt led r l) (k : Q (.ref 148, [.ref r]) s) : wpAny (model prog w) A (getMethod (.ref r) (Str.ofString "take") pl) Q E s :=
  mt_rg C h (by k_is) (by k_is) (by k_is) (by decide) k
theorem mr_put {r l : Addr} {pl : Sem Bool} {Q : Value × List Value → Shared → Prop} (C : Cx w c A n m led s) (h : RgAt led r l) (k : Q (.ref 155, [.ref r]) s) : wpAny (model prog w) A (getMethod (.ref r) (Str.ofString "put") pl) Q E s :=
  mt_rg C h (by k_is) (by k_is) (by k_is) (by decide) k
theorem mr_cut {r l : Addr} {pl : Sem Bool} {Q : Value × List Value → Shared → Prop} (C : Cx w c A n m led s) (h : RgAt led r l) (k : Q (.ref 162, [.ref r]) s) : wpAny (model prog w) A (getMethod (.ref r) (Str.ofString "cut") pl) Q E s :=
  mt_rg C h (by k_is) (by k_is) (by k_is) (by decide) k
theorem mr_copy {r l : Addr} {pl : Sem Bool} {Q : Value × List Value → Shared → Prop} (C : Cx w c A n m led s) (h : RgAt led r l) (k : Q (.ref 169, [.ref r]) s) : wpAny (model prog w) A (getMethod (.ref r) (Str.ofString "copy") pl) Q E s :=
  mt_rg C h (by k_is) (by k_is) (by k_is) (by decide) k
theorem mr_union {r l : Addr} {pl : Sem Bool} {Q : Value × List Value → Shared → Prop} (C : Cx w c A n m led s) (h : RgAt led r l) (k : Q (.ref 176, [.ref r]) s) : wpAny (model prog w) A (getMethod (.ref r) (Str.ofString "union") pl) Q E s :=
  mt_rg C h (by k_is) (by k_is) (by k_is) (by decide) k
theorem mr_without {r l : Addr} {pl : Sem Bool} {Q : Value × List Value → Shared → Prop} (C : Cx w c A n m led s) (h : RgAt led r l) (k : Q (.ref 183, [.ref r]) s) : wpAny (model prog w) A (getMethod (.ref r) (Str.ofString "without") pl) Q E s :=
  mt_rg C h (by k_is) (by k_is) (by k_is) (by decide) k
theorem ms_end {x dS r wd : Addr} {o : Obj} {b mn cur : Int} {pl : Sem Bool} {Q : Value × List Value → Shared → Prop} (C : Cx w c A n m led s) (hx : (x, instObj 287 dS) ∈ led) (hD : (dS, o) ∈ led) (ho : SlObj o b mn r wd cur) (k : Q (.ref 211, [.ref x]) s) : wpAny (model prog w) A (getMethod (.ref x) (Str.ofString "end") pl) Q E s :=
  mt_sl C hx hD ho (by k_is) (by k_is) (by k_is) (by decide) k
theorem ms_covers {x dS r wd : Addr} {o : Obj} {b mn cur : Int} {pl : Sem Bool} {Q : Value × List Value → Shared → Prop} (C : Cx w c A n m led s) (hx : (x, instObj 287 dS) ∈ led) (hD : (dS, o) ∈ led) (ho : SlObj o b mn r wd cur) (k : Q (.ref 218, [.ref x]) s) : wpAny (model prog w) A (getMethod (.ref x) (Str.ofString "covers") pl) Q E s :=
  mt_sl C hx hD ho (by k_is) (by k_is) (by k_is) (by decide) k
theorem ms_room {x dS r wd : Addr} {o : Obj} {b mn cur : Int} {pl : Sem Bool} {Q : Value × List Value → Shared → Prop} (C : Cx w c A n m led s) (hx : (x, instObj 287 dS) ∈ led) (hD : (dS, o) ∈ led) (ho : SlObj o b mn r wd cur) (k : Q (.ref 225, [.ref x]) s) : wpAny (model prog w) A (getMethod (.ref x) (Str.ofString "room") pl) Q E s :=
  mt_sl C hx hD ho (by k_is) (by k_is) (by k_is) (by decide) k
theorem ms_waiting {x dS r wd : Addr} {o : Obj} {b mn cur : Int} {pl : Sem Bool} {Q : Value × List Value → Shared → Prop} (C : Cx w c A n m led s) (hx : (x, instObj 287 dS) ∈ led) (hD : (dS, o) ∈ led) (ho : SlObj o b mn r wd cur) (k : Q (.ref 230, [.ref x]) s) : wpAny (model prog w) A (getMethod (.ref x) (Str.ofString "waiting") pl) Q E s :=
  mt_sl C hx hD ho (by k_is) (by k_is) (by k_is) (by decide) k
theorem ms_weight {x dS r wd : Addr} {o : Obj} {b mn cur : Int} {pl : Sem Bool} {Q : Value × List Value → Shared → Prop} (C : Cx w c A n m led s) (hx : (x, instObj 287 dS) ∈ led) (hD : (dS, o) ∈ led) (ho : SlObj o b mn r wd cur) (k : Q (.ref 237, [.ref x]) s) : wpAny (model prog w) A (getMethod (.ref x) (Str.ofString "weight") pl) Q E s :=
  mt_sl C hx hD ho (by k_is) (by k_is) (by k_is) (by decide) k
theorem ms_is_given {x dS r wd : Addr} {o : Obj} {b mn cur : Int} {pl : Sem Bool} {Q : Value × List Value → Shared → Prop} (C : Cx w c A n m led s) (hx : (x, instObj 287 dS) ∈ led) (hD : (dS, o) ∈ led) (ho : SlObj o b mn r wd cur) (k : Q (.ref 242, [.ref x]) s) : wpAny (model prog w) A (getMethod (.ref x) (Str.ofString "is_given") pl) Q E s :=
  mt_sl C hx hD ho (by k_is) (by k_is) (by k_is) (by decide) k
theorem ms_mapped {x dS r wd : Addr} {o : Obj} {b mn cur : Int} {pl : Sem Bool} {Q : Value × List Value → Shared → Prop} (C : Cx w c A n m led s) (hx : (x, instObj 287 dS) ∈ led) (hD : (dS, o) ∈ led) (ho : SlObj o b mn r wd cur) (k : Q (.ref 249, [.ref x]) s) : wpAny (model prog w) A (getMethod (.ref x) (Str.ofString "mapped") pl) Q E s :=
  mt_sl C hx hD ho (by k_is) (by k_is) (by k_is) (by decide) k
theorem ms_take {x dS r wd : Addr} {o : Obj} {b mn cur : Int} {pl : Sem Bool} {Q : Value × List Value → Shared → Prop} (C : Cx w c A n m led s) (hx : (x, instObj 287 dS) ∈ led) (hD : (dS, o) ∈ led) (ho : SlObj o b mn r wd cur) (k : Q (.ref 256, [.ref x]) s) : wpAny (model prog w) A (getMethod (.ref x) (Str.ofString "take") pl) Q E s :=
  mt_sl C hx hD ho (by k_is) (by k_is) (by k_is) (by decide) k
theorem ms_claim {x dS r wd : Addr} {o : Obj} {b mn cur : Int} {pl : Sem Bool} {Q : Value × List Value → Shared → Prop} (C : Cx w c A n m led s) (hx : (x, instObj 287 dS) ∈ led) (hD : (dS, o) ∈ led) (ho : SlObj o b mn r wd cur) (k : Q (.ref 263, [.ref x]) s) : wpAny (model prog w) A (getMethod (.ref x) (Str.ofString "claim") pl) Q E s :=
  mt_sl C hx hD ho (by k_is) (by k_is) (by k_is) (by decide) k
theorem ms_give {x dS r wd : Addr} {o : Obj} {b mn cur : Int} {pl : Sem Bool} {Q : Value × List Value → Shared → Prop} (C : Cx w c A n m led s) (hx : (x, instObj 287 dS) ∈ led) (hD : (dS, o) ∈ led) (ho : SlObj o b mn r wd cur) (k : Q (.ref 270, [.ref x]) s) : wpAny (model prog w) A (getMethod (.ref x) (Str.ofString "give") pl) Q E s :=
  mt_sl C hx hD ho (by k_is) (by k_is) (by k_is) (by decide) k
theorem ms_settle {x dS r wd : Addr} {o : Obj} {b mn cur : Int} {pl : Sem Bool} {Q : Value × List Value → Shared → Prop} (C : Cx w c A n m led s) (hx : (x, instObj 287 dS) ∈ led) (hD : (dS, o) ∈ led) (ho : SlObj o b mn r wd cur) (k : Q (.ref 277, [.ref x]) s) : wpAny (model prog w) A (getMethod (.ref x) (Str.ofString "settle") pl) Q E s :=
  mt_sl C hx hD ho (by k_is) (by k_is) (by k_is) (by decide) k
theorem ms_load {x dS r wd : Addr} {o : Obj} {b mn cur : Int} {pl : Sem Bool} {Q : Value × List Value → Shared → Prop} (C : Cx w c A n m led s) (hx : (x, instObj 287 dS) ∈ led) (hD : (dS, o) ∈ led) (ho : SlObj o b mn r wd cur) (k : Q (.ref 284, [.ref x]) s) : wpAny (model prog w) A (getMethod (.ref x) (Str.ofString "load") pl) Q E s :=
  mt_sl C hx hD ho (by k_is) (by k_is) (by k_is) (by decide) k
theorem at_begin {x dS r wd : Addr} {o : Obj} {b mn cur : Int} {bb : Bool} {Q : Value → Shared → Prop} (C : Cx w c A n m led s) (hx : (x, instObj 287 dS) ∈ led) (hD : (dS, o) ∈ led) (ho : SlObj o b mn r wd cur) (k : ∀ t s, Cx w c A n m led s → Q (.int b t) s) : wpAny (model prog w) A (getAttr (.ref x) (Str.ofString "begin") bb) Q E s := by
  obtain ⟨h1, h2, h3, h4, h5, t1, t2, t3, t4, t5, k1, k2, k3, j, rfl⟩ := ho
  exact get_own C.F C.X (InstAt.of_news C.N hx hD) (by k_is) (by k_is) (by k_is) (by k_is) rfl rfl (k _ _ C.same)
theorem at_many {x dS r wd : Addr} {o : Obj} {b mn cur : Int} {bb : Bool} {Q : Value → Shared → Prop} (C : Cx w c A n m led s) (hx : (x, instObj 287 dS) ∈ led) (hD : (dS, o) ∈ led) (ho : SlObj o b mn r wd cur) (k : ∀ t s, Cx w c A n m led s → Q (.int mn t) s) : wpAny (model prog w) A (getAttr (.ref x) (Str.ofString "many") bb) Q E s := by
  obtain ⟨h1, h2, h3, h4, h5, t1, t2, t3, t4, t5, k1, k2, k3, j, rfl⟩ := ho
  exact get_own C.F C.X (InstAt.of_news C.N hx hD) (by k_is) (by k_is) (by k_is) (by k_is) rfl rfl (k _ _ C.same)
theorem at_cursor {x dS r wd : Addr} {o : Obj} {b mn cur : Int} {bb : Bool} {Q : Value → Shared → Prop} (C : Cx w c A n m led s) (hx : (x, instObj 287 dS) ∈ led) (hD : (dS, o) ∈ led) (ho : SlObj o b mn r wd cur) (k : ∀ t s, Cx w c A n m led s → Q (.int cur t) s) : wpAny (model prog w) A (getAttr (.ref x) (Str.ofString "cursor") bb) Q E s := by
  obtain ⟨h1, h2, h3, h4, h5, t1, t2, t3, t4, t5, k1, k2, k3, j, rfl⟩ := ho
  exact get_own C.F C.X (InstAt.of_news C.N hx hD) (by k_is) (by k_is) (by k_is) (by k_is) rfl rfl (k _ _ C.same)
theorem at_free {x dS r wd : Addr} {o : Obj} {b mn cur : Int} {bb : Bool} {Q : Value → Shared → Prop} (C : Cx w c A n m led s) (hx : (x, instObj 287 dS) ∈ led) (hD : (dS, o) ∈ led) (ho : SlObj o b mn r wd cur) (k : ∀ s, Cx w c A n m led s → Q (.ref r) s) : wpAny (model prog w) A (getAttr (.ref x) (Str.ofString "free") bb) Q E s := by
  obtain ⟨h1, h2, h3, h4, h5, t1, t2, t3, t4, t5, k1, k2, k3, j, rfl⟩ := ho
  exact get_own C.F C.X (InstAt.of_news C.N hx hD) (by k_is) (by k_is) (by k_is) (by k_is) rfl rfl (k _ C.same)
theorem at_waits {x dS r wd : Addr} {o : Obj} {b mn cur : Int} {bb : Bool} {Q : Value → Shared → Prop} (C : Cx w c A n m led s) (hx : (x, instObj 287 dS) ∈ led) (hD : (dS, o) ∈ led) (ho : SlObj o b mn r wd cur) (k : ∀ s, Cx w c A n m led s → Q (.ref wd) s) : wpAny (model prog w) A (getAttr (.ref x) (Str.ofString "waits") bb) Q E s := by
  obtain ⟨h1, h2, h3, h4, h5, t1, t2, t3, t4, t5, k1, k2, k3, j, rfl⟩ := ho
  exact get_own C.F C.X (InstAt.of_news C.N hx hD) (by k_is) (by k_is) (by k_is) (by k_is) rfl rfl (k _ C.same)
theorem cw_more {env : Env} {e : PySem.Expr} {rest : List PySem.Expr} {pos : Pos} {f : Addr} {first : List Value} {Q : Value → Shared → Prop} (C : Cx w c A n m led s) (hk : keepIn (KH w.params) (.ref f) = true)
    (h : wpAny (model prog w) A (spliced (backTo pos (starEach (e :: rest) env))) (fun vs s₁ => (KH w.params).In s₁.heap ∧ wpAny (model prog w) A (call (.ref f) (first ++ vs)) Q E s₁) E s)
    (he : starEach (e :: rest) env = (false, eval e env) :: starEach rest env := by rfl) (hplain : (backTo pos (starEach rest env)).any (·.1) = false := by rfl) :
    wpAny (model prog w) A (callWith pos (.ref f) first (backTo pos (starEach (e :: rest) env)) []) Q E s := callWith_K C.X hk h he hplain
theorem cw_none {env : Env} {pos : Pos} {f : Addr} {first : List Value} {Q : Value → Shared → Prop} (C : Cx w c A n m led s) (hk : keepIn (KH w.params) (.ref f) = true)
    (h : wpAny (model prog w) A (call (.ref f) (first ++ [])) Q E s) : wpAny (model prog w) A (callWith pos (.ref f) first (backTo pos (starEach [] env)) []) Q E s := callWith_K0 C.Xs hk h
end
end Mine
end

section
open PySem PySem.W PySem.Calls PyProof.Rows
namespace Mine
noncomputable abbrev tupO (vs : List Value) (k : Nat) : Obj := { cls := .type "tuple", data := .seq vs.toArray k }
noncomputable abbrev lstO (vs : List Value) (k : Nat) : Obj := listOf vs.toArray k
inductive RowIs (led : Led) (v : Value) (p : Int × Int) : Prop where
  | mk (t : Addr) (k1 k2 : Tok) (j : Nat) (e : v = .ref t) (h : (t, tupO [.int p.1 k1, .int p.2 k2] j) ∈ led)
noncomputable def RowsV (led : Led) : List Value → Rows → Prop
  | [], [] => True
  | v :: vs, p :: ps => RowIs led v p ∧ RowsV led vs ps
  | _, _ => False
theorem RowIs.mono {led led' : Led} {v : Value} {p : Int × Int} (h : RowIs led v p) (k : ∀ q ∈ led, q ∈ led') : RowIs led' v p := let ⟨t, k1, k2, j, e, hm⟩ := h; ⟨t, k1, k2, j, e, k _ hm⟩
namespace RowsV
variable {led led' : Led}
theorem mono (k : ∀ q ∈ led, q ∈ led') : ∀ {vs : List Value} {ps : Rows}, RowsV led vs ps → RowsV led' vs ps
  | [], [], _ => trivial
  | _ :: _, _ :: _, h => ⟨h.1.mono k, h.2.mono k⟩
theorem len : ∀ {vs : List Value} {ps : Rows}, RowsV led vs ps → vs.length = ps.length
  | [], [], _ => rfl
  | _ :: _, _ :: _, h => congrArg (· + 1) h.2.len
theorem get : ∀ {vs : List Value} {ps : Rows}, RowsV led vs ps → ∀ i (h : i < ps.length), ∃ v, vs[i]? = some v ∧ RowIs led v ps[i]
  | [], [], _, _, hi => absurd hi (Nat.not_lt_zero _)
  | v :: _, _ :: _, h, 0, _ => ⟨v, rfl, h.1⟩
  | _ :: _, _ :: _, h, i + 1, hi => h.2.get i (Nat.lt_of_succ_lt_succ hi)
theorem append : ∀ {vs ws : List Value} {ps qs : Rows}, RowsV led vs ps → RowsV led ws qs → RowsV led (vs ++ ws) (ps ++ qs)
  | [], _, [], _, _, g => g
  | _ :: _, _, _ :: _, _, h, g => ⟨h.1, h.2.append g⟩
theorem take : ∀ {vs : List Value} {ps : Rows} (k : Nat), RowsV led vs ps → RowsV led (vs.take k) (ps.take k)
  | [], [], k, _ => by simp [RowsV]
  | _ :: _, _ :: _, 0, _ => trivial
  | _ :: _, _ :: _, k + 1, h => ⟨h.1, h.2.take k⟩
theorem drop : ∀ {vs : List Value} {ps : Rows} (k : Nat), RowsV led vs ps → RowsV led (vs.drop k) (ps.drop k)
  | [], [], k, _ => by simp [RowsV]
  | _ :: _, _ :: _, 0, h => h
  | _ :: _, _ :: _, k + 1, h => h.2.drop k
theorem one {v : Value} {p : Int × Int} (h : RowIs led v p) : RowsV led [v] [p] := ⟨h, trivial⟩
end RowsV
theorem ite_dec {p : Prop} [Decidable p] {X Y : Prop} (h1 : p → X) (h2 : ¬ p → Y) : if decide p = true then X else Y := by
  by_cases h : p
  · rw [if_pos (decide_eq_true h)]; exact h1 h
  · rw [if_neg (by simpa using h)]; exact h2 h
theorem ite_t {b : Bool} {X Y : Prop} (h : b = true) (x : X) : if b = true then X else Y := by rw [if_pos h]; exact x
theorem ite_f {b : Bool} {X Y : Prop} (h : b = false) (y : Y) : if b = true then X else Y := by rw [if_neg (by rw [h]; decide)]; exact y
section
variable {prog : Program} {w : World} {c : Cfg} {A : Around} {n : Nat} {m : Loc} {led : Led} {s : Shared} {E : Value → Shared → Prop}
theorem Cx.drop {x : Addr × Obj} (C : Cx w c A n m (x :: led) s) : Cx w c A n m led s :=
  C.step C.F (fun p hp => C.N p (.tail _ hp)) (List.nodup_cons.mp C.nd).2
theorem Cx.swap {x y : Addr × Obj} (C : Cx w c A n m (x :: y :: led) s) : Cx w c A n m (y :: x :: led) s := C.perm (.swap _ _ _)
theorem Cx.ne {a : Addr} {o : Obj} (C : Cx w c A n m ((a, o) :: led) s) : ∀ p ∈ led, p.1 ≠ a := fun p hp q => (List.nodup_cons.mp C.nd).1 (List.mem_map.mpr ⟨p, hp, q⟩)
theorem Cx.set {a : Addr} {o o' : Obj} {s' : Shared} (C : Cx w c A n m ((a, o) :: led) s) (hs : Heap.SameBut a s.heap s'.heap) (ho : s'.heap.get? a = some o') (hg : s'.gens = s.gens := by rfl) (hos : s'.os = s.os := by rfl) : Cx w c A n m ((a, o') :: led) s' := by
  have z := C.N (a, o) (.head _)
  refine C.step (C.F.change hs z.2.1 z.2.2) (fun p hp => ?_) C.nd hg hos
  rcases List.mem_cons.mp hp with rfl | hp
  · exact ⟨ho, z.2⟩
  · exact ⟨(hs.2 _ (C.ne p hp)).trans (C.N p (.tail _ hp)).1, (C.N p (.tail _ hp)).2⟩
theorem Cx.pull {x : Addr × Obj} {a b : Led} (C : Cx w c A n m (a ++ x :: b) s) : Cx w c A n m (x :: (a ++ b)) s := C.perm List.perm_middle
theorem Cx.push {x : Addr × Obj} {a b : Led} (C : Cx w c A n m (x :: (a ++ b)) s) : Cx w c A n m (a ++ x :: b) s := C.perm List.perm_middle.symm
theorem it_list {value slice : PySem.Expr} {l : Addr} {items : List Value} {k : Nat} {i : Int} {u : Tok} {x : Value} {Q : Value → Shared → Prop} (C : Cx w c A n m led s) (hm : (l, lstO items k) ∈ led) (h0 : 0 ≤ i) (hb : i < 2 ^ 63) (hx : items[i.toNat]? = some x)
    (h : Q x s) (hs : subscripted slice false (.ref l) (.int i u) = operate [.ref l, .int i u] (getItem (.ref l) (.int i u))) : wpAny (model prog w) A (subscriptTail value slice (.ref l) (.int i u)) Q E s :=
  tail_any (C.lst hm).typeIs slot_list_getitem.lookup (wpAny_getItem_list (C.lst hm) h0 hb (by simpa using hx) h) hs
theorem it_tup {value slice : PySem.Expr} {t : Addr} {vs : List Value} {k : Nat} {i : Int} {u : Tok} {j : Nat} {x : Value} {Q : Value → Shared → Prop} (C : Cx w c A n m led s) (hm : (t, tupO vs k) ∈ led) (h0 : -2 ^ 63 ≤ i) (hb : i < 2 ^ 63) (hj : seqIndex? i vs.length = some j) (hx : vs[j]? = some x)
    (h : Q x s) (hs : subscripted slice false (.ref t) (.int i u) = operate [.ref t, .int i u] (getItem (.ref t) (.int i u))) : wpAny (model prog w) A (subscriptTail value slice (.ref t) (.int i u)) Q E s :=
  item_tupleT ⟨_, C.get hm, rfl, k, rfl⟩ h0 hb hj hx h hs
theorem b_max {a b : Int} {t u : Tok} {Q : Value → Shared → Prop} (C : Cx w c A n m led s) (h : ∀ t s, Cx w c A n m led s → Q (.int (max a b) t) s) : wpAny (model prog w) A (call (.builtin "max") [.int a t, .int b u]) Q E s :=
  max_two_N C.hh C.F C.N fun h' tk F' N' => by
    have e : (if b > a then b else a) = max a b := by split <;> omega
    rw [e]; exact h _ _ (C.step F' N' C.nd)
theorem b_min {a b : Int} {t u : Tok} {Q : Value → Shared → Prop} (C : Cx w c A n m led s) (h : ∀ t s, Cx w c A n m led s → Q (.int (min a b) t) s) : wpAny (model prog w) A (call (.builtin "min") [.int a t, .int b u]) Q E s :=
  min_two_N C.hh C.F C.N fun h' tk F' N' => by
    have e : (if b < a then b else a) = min a b := by split <;> omega
    rw [e]; exact h _ _ (C.step F' N' C.nd)
theorem mt_append {l : Addr} {items : List Value} {k : Nat} {pl : Sem Bool} {Q : Value × List Value → Shared → Prop} (C : Cx w c A n m led s) (hm : (l, lstO items k) ∈ led) (h : Q (.builtin "list.append", [.ref l]) s) : wpAny (model prog w) A (getMethod (.ref l) (Str.ofString "append") pl) Q E s :=
  getMethod_list_append (C.get hm) rfl rfl h
theorem b_append {l : Addr} {items : List Value} {k : Nat} {x : Value} {Q : Value → Shared → Prop} (C : Cx w c A n m ((l, lstO items k) :: led) s) (hz : items.length ≤ 100000) (h : ∀ s, Cx w c A n m ((l, lstO (items ++ [x]) (k + 1)) :: led) s → Q .none s) : wpAny (model prog w) A (call (.builtin "list.append") [.ref l, x]) Q E s :=
  append_at (C.get (.head _)) (fun h' hs ho => h _ (C.set hs (by rw [show (lstO (items ++ [x]) (k + 1)) = { cls := .type "list", data := .seq (items.toArray.push x) (k + 1) } from by simp]; exact ho))) (by rw [List.size_toArray, sizeLine_eq]; lia)
theorem clamp {a L : Nat} (h : a ≤ L) : max 0 (min (a : Int) (L : Int)) = (a : Int) := by rw [Int.min_eq_left (Int.ofNat_le.mpr h), Int.max_eq_right (Int.natCast_nonneg _)]
theorem max_nat {a b : Nat} (h : a ≤ b) : (max (a : Int) (b : Int)).toNat = b := by rw [Int.max_eq_right (Int.ofNat_le.mpr h)]; rfl
theorem sl_fits {a b L N : Nat} (h1 : a ≤ b) (h2 : b ≤ L) (hz : L + N ≤ 100000) : min (a : Int).toNat L - 0 + N + (min L L - (max (a : Int) (b : Int)).toNat) ≤ 16777216 + 1 := by
  rw [max_nat h1, Nat.min_self, Int.toNat_natCast, Nat.min_eq_left (Nat.le_trans h1 h2)]
  lia
theorem set_slice {l sl vl : Addr} {items new : List Value} {k k' a b : Nat} {t u : Tok} {Q : Unit → Shared → Prop} (C : Cx w c A n m ((l, lstO items k) :: led) s) (hsl : s.heap.IsSliceOf sl (.int a t) (.int b u) .none) (hv : (vl, lstO new k') ∈ led)
    (hab : a ≤ b) (hb : b ≤ items.length) (hz : items.length + new.length ≤ 100000)
    (h : ∀ j s, Cx w c A n m ((l, lstO (items.take a ++ new ++ items.drop b) j) :: led) s → Q () s) :
    wpAny (model prog w) A (setItem (.ref l) (.ref sl) (.ref vl)) Q E s := by
  have hl : s.heap.IsList l items.toArray := C.lst (.head _)
  have ho := C.get (.head _)
  have hvl := C.get (.tail _ hv)
  have hne : vl ≠ l := C.ne _ hv
  obtain ⟨os, hos, hcs, hds⟩ := hsl
  have hTs : s.TypeIs (.ref sl) "slice" := ⟨os, hos, hcs⟩
  have hTv : s.TypeIs (.ref vl) "list" := ⟨_, hvl, rfl⟩
  unfold setItem
  refine wpAny_holding ?_
  refine wpAny_bind (wpAny_sequenceKey hl.typeIs (by decide) ?_)
  refine wpAny_bind (wpAny_callSpecial?_slot (name := Str.ofString "__setitem__") hl.typeIs slot_list_setitem
    (wpAny_call_entry slot_list_setitem hl.typeIs entry_list_setitem ?_ (args_list_setitem _ _ _)))
  show wpAny _ _ (Builtin.List.listSubscript? (.ref sl) >>= _) _ _ s
  refine wpAny_bind ?_
  unfold Builtin.List.listSubscript?
  refine wpAny_bind (wpAny_specialOf hTs slice_no_index ?_)
  simp only [Option.isNone_none, if_true]
  refine wpAny_pure ?_
  show wpAny _ _ (typeOf (.ref sl) >>= _) _ _ s
  refine wpAny_bind (wpAny_typeOf hTs ?_)
  rw [if_neg (by decide)]
  rw [listSliceParts_eq]
  refine wpAny_bind (wpAny_bind (wpAny_field hos hds (x := .none) rfl (wpAny_bind (wpAny_listPart .none ?_))))
  rw [if_neg (show ¬ ((rawPart none == rawInt 0) = true) from Bool.false_ne_true)]
  refine wpAny_bind (wpAny_field hos hds (x := .int a t) rfl (wpAny_bind (wpAny_listPart (.int _ _) ?_)))
  refine wpAny_bind (wpAny_field hos hds (x := .int b u) rfl (wpAny_bind (wpAny_listPart (.int _ _) (wpAny_pure ?_))))
  dsimp only
  have hsr : (match (Value.ref l, Value.ref vl) with | (.ref x, .ref y) => x == y | _ => false) = false := by
    show (l == vl) = false
    exact beq_false_of_ne fun e => hne e.symm
  rw [show Builtin.List.listSameRef (.ref l) (.ref vl) = false from hsr]
  simp only [Bool.false_eq_true, if_false]
  refine wpAny_bind (m := Builtin.List.listAllItems (.ref vl) _) ?_
  unfold Builtin.List.listAllItems
  refine wpAny_bind (wpAny_typeOf hTv ?_)
  rw [if_pos (by decide)]
  unfold Builtin.List.listItems
  refine wpAny_bind (wpAny_seqItems hvl rfl (wpAny_pure ?_))
  refine wpAny_bind (wpAny_bind (wpAny_seqItems ho rfl (wpAny_pure ?_)))
  refine wpAny_bind (wpAny_of_eq (sliceIndices_raw (some (a : Int)) (some (b : Int)) none items.toArray.size (by simp)) ?_)
  have eb : sliceBounds (some (a : Int)) (some (b : Int)) none items.toArray.size = ((a : Int), (b : Int), 1) := by
    simp only [sliceBounds, Option.getD_none, List.size_toArray]
    have h1 : ¬ ((a : Int) < 0) := by lia
    have h2 : ¬ ((b : Int) < 0) := by lia
    simp only [h1, h2, if_false, show (1 : Int) > 0 by decide, if_true]
    rw [clamp (Nat.le_trans hab hb), clamp hb]
  rw [eb]
  dsimp only
  rw [if_pos (by decide)]
  refine wpAny_bind (wpAny_rule ?_)
  rw [show Builtin.List.listTooLong (items.toArray.size + new.toArray.size) = false from by
    unfold Builtin.List.listTooLong; rw [List.size_toArray, List.size_toArray, sizeLine_eq]; simp; lia]
  simp only [Bool.false_eq_true, if_false]
  have hz1 : items.toArray.size ≤ sizeLine := by rw [List.size_toArray, sizeLine_eq]; lia
  refine wpAny_bind (m := Builtin.List.listUpdate (.ref l) _) ?_
  unfold Builtin.List.listUpdate
  refine wpAny_updateSeq ho rfl ?_ hz1 (by
    simp only [Array.size_append, Array.size_extract, List.size_toArray]
    rw [sizeLine_eq]; exact sl_fits hab hb hz)
  refine wpAny_bind (wpAny_letGo ?_)
  refine wpAny_pure ?_
  refine ⟨_, rfl, wpAny_pure ?_⟩
  refine h (if (items.take a ++ new ++ items.drop b).length == items.length then k else k + 1) _ (C.set (Heap.SameBut.update ..) ?_)
  refine (Heap.get?_update_self _ ho ?_).trans ?_
  · rfl
  · have ea : (items.toArray.extract 0 (Int.toNat (a : Int)) ++ new.toArray ++ items.toArray.extract (max (a : Int) (b : Int)).toNat items.toArray.size) = (items.take a ++ new ++ items.drop b).toArray := by
      have e1 := max_nat hab
      rw [e1]
      apply Array.ext'
      simp
      exact List.take_of_length_le (by simp)
    have eo : ∀ (f : Array Value → Array Value) (xs : List Value) (j : Nat), Obj.mapSeq f (lstO xs j) = { cls := .type "list", data := .seq (f xs.toArray) (if (f xs.toArray).size == xs.toArray.size then j else j + 1) } := fun f xs j => rfl
    rw [eo, ea, List.size_toArray, List.size_toArray]
noncomputable def SlcBack (Q : Value → Shared → Prop) (l u st : Value) (s : Shared) : Prop := Q (.ref s.heap.objs.size) { s with heap := s.heap.push { cls := .type "slice", data := .fields #[l, u, st] } }
theorem x_slice {env : Env} {lower upper step : Option PySem.Expr} {p : Pos} {Q : Value → Shared → Prop}
    (h : wpAny (model prog w) A (evalPart lower env) (fun l s₁ => wpAny (model prog w) A (evalPart upper env) (fun u s₂ => wpAny (model prog w) A (evalPart step env) (fun st s₃ => SlcBack Q l u st s₃) E s₂) E s₁) E s) :
    wpAny (model prog w) A (eval (.Slice lower upper step p) env) Q E s := wpAny_Slice h
theorem slc {l u st : Value} {Q : Value → Shared → Prop} (C : Cx w c A n m led s) (h : ∀ D s, Cx w c A n m led s → s.heap.IsSliceOf D l u st → Q (.ref D) s) : SlcBack Q l u st s :=
  h _ _ (C.keeps (s' := { s with heap := s.heap.push { cls := .type "slice", data := .fields #[l, u, st] } }) (fun _ _ e => Heap.get?_push_of_some _ e)) (Heap.IsSliceOf.new ..)
end
end Mine
end

section
open PySem PySem.W PySem.Calls PyProof.Rows
namespace Mine
section
variable {prog : Program} {w : World} {c : Cfg} {A : Around} {n : Nat} {m : Loc} {led : Led} {s : Shared} {E : Value → Shared → Prop}
structure RgSt (led : Led) (r l : Addr) (items : List Value) (k : Nat) (rows : Rows) : Prop where
  hr : RgAt led r l
  hl : (l, lstO items k) ∈ led
  hv : RowsV led items rows
  hg : Rg rows
theorem RgSt.mono {led led' : Led} {r l : Addr} {items : List Value} {k : Nat} {rows : Rows} (h : RgSt led r l items k rows) (q : ∀ p ∈ led, p ∈ led') : RgSt led' r l items k rows := ⟨h.hr.mono q, q _ h.hl, h.hv.mono q, h.hg⟩
inductive J2 (w : World) (c : Cfg) (A : Around) (n : Nat) (led : Led) (r : Addr) (x : Int) (t0 : Tok) (rows : Rows) (d : Nat) (s : Shared) : Prop
  | mk (lo hi : Nat) (m : Loc) (t1 t2 : Tok) (C : Cx w c A n m led s) (m1 : m (Str.ofString "self") = some (.ref r)) (m2 : m (Str.ofString "at") = some (.int x t0)) (m3 : m (Str.ofString "low") = some (.int lo t1)) (m4 : m (Str.ofString "high") = some (.int hi t2)) (h1 : lo ≤ hi) (h2 : hi ≤ rows.length) (h3 : d = hi - lo) (h4 : ∀ i (h : i < rows.length), i < lo → rows[i].1 ≤ x) (h5 : ∀ i (h : i < rows.length), hi ≤ i → x < rows[i].1) : J2 w c A n led r x t0 rows d s
theorem spec_behind {r l : Addr} {items : List Value} {k : Nat} {rows : Rows} {x : Int} {t0 : Tok} {Q : Value → Shared → Prop} (C : Cx w c A (n + 1) m led s)
    (R : RgSt led r l items k rows) (K : ∀ b t s, Bh rows x b → Cx w c A (n + 1) m led s → Q (.int (b : Int) t) s) :
    wpAny (model prog w) A (call (.ref 76) [.ref r, .int x t0]) Q E s := by
  have hr := R.hr; have hl := R.hl; have hv := R.hv; have hs := R.hg.sorted; have hz := R.hg.len
  have hlen := hv.len
  refine enter0 (binds := [(Str.ofString "self", .ref r), (Str.ofString "at", .int x t0)]) C (by k_is) (by k_is) (BindsTo.of_eq rfl) (locs rfl) (fun c A E s C Qr kQ => ?_) rfl rfl rfl (by decide)
  walk_at "xc"
  refine Assign_Tuple_swapped (names := [Str.ofString "low", Str.ofString "high"]) ?_
  refine opv fun _ _ => ?_
  refine Tuple_ ?_
  refine spliced_more ?_
  with_reducible refine k_int C fun t s C => ?_
  refine spliced_more ?_
  refine Call_ ?_
  refine nm_b C (by k_is) (by boot_fast) ?_ (by decide) rfl rfl (by decide)
  refine PyProof.Rows.callWith_builtin1 ?_
  refine spliced_more ?_
  refine Attribute_any_ ?_
  refine nm_l C (by walk_at "lk") ?_ rfl rfl (by decide)
  refine at_rows C hr fun s C => ?_
  refine spliced_none ?_
  refine b_len C hl (by rw [List.size_toArray]; lia) fun t s C => ?_
  refine spliced_none ?_
  refine mk_tup C (Nat.le_of_ble_eq_true rfl) fun D s C => ?_
  walk_at "op"
  refine unpack_tup C (.head _) rfl fun s C => ?_
  replace C := C.drop
  refine assignInOrder_cons ?_
  refine bd_l C (fun s C => ?_) rfl rfl
  refine assignInOrder_cons ?_
  refine bd_l C (fun s C => ?_) rfl rfl
  refine assignInOrder_nil ?_
  walk_at "xc"
  refine wpAny_While ?_
  refine codeAny_whileLoop (J2 w c A n led r x t0 rows) (fun d s I => ?_) rows.length
     ⟨0, items.toArray.size, _, _, _, C, by walk_at "lk", by walk_at "lk", by walk_at "lk", by walk_at "lk", by lia, by rw [List.size_toArray]; lia, by rw [List.size_toArray]; lia, (fun _ _ q => absurd q (Nat.not_lt_zero _)), (fun i h q => by rw [List.size_toArray] at q; omega)⟩
  obtain ⟨lo, hi, m, t1, t2, C, m1, m2, m3, m4, h1, h2, h3, h4, h5⟩ := I
  refine wpAny_isTrue_Compare1 ?_
  refine nm_l C (by walk_at "lk") ?_ rfl rfl (by decide)
  refine nm_l C (by walk_at "lk") ?_ rfl rfl (by decide)
  refine lt_int ?_
  refine wpAny_truthy_bool ?_
  refine ite_dec (fun g => ?_) (fun g => ?_)
  · walk_at "xc"
    refine wpAny_Assign_Name ?_
    refine wpAny_BinOp ?_
    refine wpAny_BinOp ?_
    refine nm_l C (by walk_at "lk") ?_ rfl rfl (by decide)
    refine nm_l C (by walk_at "lk") ?_ rfl rfl (by decide)
    with_reducible refine a_add C fun t s C => ?_
    with_reducible refine k_int C fun t s C => ?_
    refine a_half C (by decide) (PyProof.noPylong_of_log2 (by decide +kernel)) fun t s C => ?_
    refine st_l C (fun s C => ?_) rfl rfl
    obtain ⟨mid, hm, hm1, hm2⟩ : ∃ mid : Nat, ((lo : Int) + hi).fdiv 2 = mid ∧ lo ≤ mid ∧ mid < hi := ⟨(lo + hi) / 2, by rw [Int.fdiv_eq_ediv_of_nonneg _ (by decide)]; lia, by lia, by lia⟩
    rw [hm] at C
    obtain ⟨v, hv1, tt, k1, k2, j, rfl, hv2⟩ := hv.get mid (by lia)
    walk_at "xc"
    refine wpAny_If ?_
    refine opv fun _ _ => ?_
    refine wpAny_isTrue_Compare1 ?_
    refine opv fun _ _ => ?_
    refine Subscript_ ?_
    refine Subscript_ ?_
    refine Attribute_any_ ?_
    refine nm_l C (by walk_at "lk") ?_ rfl rfl (by decide)
    refine at_rows C hr fun s C => ?_
    refine nm_l C (by walk_at "lk") ?_ rfl rfl (by decide)
    refine it_list C hl (by lia) (by lia) (by simpa using hv1) ?_ (by with_unfolding_all rfl)
    with_reducible refine k_int C fun t s C => ?_
    refine it_tup C hv2 (by decide) (by decide) rfl rfl ?_ (by with_unfolding_all rfl)
    walk_at "op"
    refine nm_l C (by walk_at "lk") ?_ rfl rfl (by decide)
    refine le_int ?_
    refine wpAny_truthy_bool ?_
    walk_at "op"
    refine ite_dec (fun g2 => ?_) (fun g2 => ?_)
    · walk_at "xc"
      refine wpAny_Assign_Name ?_
      refine wpAny_BinOp ?_
      refine nm_l C (by walk_at "lk") ?_ rfl rfl (by decide)
      with_reducible refine k_int C fun t s C => ?_
      with_reducible refine a_add C fun t s C => ?_
      refine st_l C (fun s C => ?_) rfl rfl
      walk_at "xn"
      walk_at "xn"
      refine ⟨hi - (mid + 1), by omega, mid + 1, hi, _, _, _, C, by walk_at "lk", by walk_at "lk", by walk_at "lk", by walk_at "lk", by lia, by lia, by lia, fun i h q => ?_, h5⟩
      exact Int.le_trans (hs.le (i := i) (j := mid) (by lia) (by lia)) g2
    · walk_at "xc"
      refine wpAny_Assign_Name ?_
      refine nm_l C (by walk_at "lk") ?_ rfl rfl (by decide)
      refine st_l C (fun s C => ?_) rfl rfl
      walk_at "xn"
      walk_at "xn"
      refine ⟨mid - lo, by omega, lo, mid, _, _, _, C, by walk_at "lk", by walk_at "lk", by walk_at "lk", by walk_at "lk", by omega, by lia, by lia, h4, fun i h q => ?_⟩
      exact Int.lt_of_lt_of_le (Int.not_le.mp g2) (hs.le (i := mid) (j := i) h q)
  · walk_at "xn"
    walk_at "xc"
    refine wpAny_Return_some ?_
    refine nm_l C (by walk_at "lk") ?_ rfl rfl (by decide)
    walk_at "ar"
    try walk_at "rt"
    refine kQ _ _ m led C (fun C => ?_)
    exact K lo _ _ ⟨by lia, h4, fun i h q => h5 i h (by lia)⟩ C
theorem spec_want {r : Addr} {b y : Int} {t1 t2 : Tok} {Q : Value → Shared → Prop} (C : Cx w c A (n + 1) m led s)
    (hb : 0 ≤ b) (hy : 0 ≤ y) (K : ∀ s, Cx w c A (n + 1) m led s → Q .none s) :
    wpAny (model prog w) A (call (.ref 83) [.ref r, .int b t1, .int y t2]) Q E s := by
  refine enter0 (binds := [(Str.ofString "self", .ref r), (Str.ofString "begin", .int b t1), (Str.ofString "many", .int y t2)]) C (by k_is) (by k_is) (BindsTo.of_eq rfl) (locs rfl) (fun c A E s C Qr kQ => ?_) rfl rfl rfl (by decide)
  walk_at "xc"
  refine wpAny_If ?_
  refine isTrue_or ?_
  refine wpAny_isTrue_Compare1 ?_
  refine nm_l C (by walk_at "lk") ?_ rfl rfl (by decide)
  with_reducible refine k_int C fun t s C => ?_
  refine lt_int ?_
  refine wpAny_truthy_bool ?_
  refine ite_f (decide_eq_false (by lia)) ?_
  refine isTrue_or ?_
  refine wpAny_isTrue_Compare1 ?_
  refine nm_l C (by walk_at "lk") ?_ rfl rfl (by decide)
  with_reducible refine k_int C fun t s C => ?_
  refine lt_int ?_
  refine wpAny_truthy_bool ?_
  refine ite_f (decide_eq_false (by lia)) ?_
  refine isTrue_or_nil ?_
  walk_at "xn"
  walk_at "xn"
  try walk_at "rt"
  exact kQ _ _ _ _ C (fun C => K _ C)
theorem spec_has {r l : Addr} {items : List Value} {k : Nat} {rows : Rows} {b y : Int} {t1 t2 : Tok} {Q : Value → Shared → Prop} (C : Cx w c A (n + 2) m led s)
    (R : RgSt led r l items k rows) (hb : 0 ≤ b) (hy : 0 ≤ y) (K : ∀ v s, (v = true ↔ Covers rows b y) → Cx w c A (n + 2) m led s → Q (.bool v) s) :
    wpAny (model prog w) A (call (.ref 90) [.ref r, .int b t1, .int y t2]) Q E s := by
  have hr := R.hr; have hl := R.hl; have hv := R.hv; have hg := R.hg; have hz := R.hg.len
  have hlen := hv.len
  refine enter0 (binds := [(Str.ofString "self", .ref r), (Str.ofString "begin", .int b t1), (Str.ofString "many", .int y t2)]) C (by k_is) (by k_is) (BindsTo.of_eq rfl) (locs rfl) (fun c A E s C Qr kQ => ?_) rfl rfl rfl (by decide)
  walk_at "xc"
  refine wpAny_Expr_any ?_
  refine MethodCall_ ?_
  refine nm_l C (by walk_at "lk") ?_ rfl rfl (by decide)
  refine mr_want C hr ?_
  refine cw_more C (by k_is) ?_
  refine spliced_more ?_
  refine nm_l C (by walk_at "lk") ?_ rfl rfl (by decide)
  refine spliced_more ?_
  refine nm_l C (by walk_at "lk") ?_ rfl rfl (by decide)
  refine spliced_none ?_
  refine ⟨C.Xs, ?_⟩
  refine spec_want C hb hy fun s C => ?_
  walk_at "xc"
  refine wpAny_Assign_Name ?_
  refine opv fun _ _ => ?_
  refine wpAny_BinOp ?_
  refine MethodCall_ ?_
  refine nm_l C (by walk_at "lk") ?_ rfl rfl (by decide)
  refine mr_behind C hr ?_
  refine cw_more C (by k_is) ?_
  refine spliced_more ?_
  refine nm_l C (by walk_at "lk") ?_ rfl rfl (by decide)
  refine spliced_none ?_
  refine ⟨C.Xs, ?_⟩
  refine spec_behind C R fun x t s B C => ?_
  with_reducible refine k_int C fun t s C => ?_
  with_reducible refine a_sub C fun t s C => ?_
  walk_at "op"
  refine st_l C (fun s C => ?_) rfl rfl
  walk_at "xc"
  refine wpAny_Return_some ?_
  refine BoolOp_or ?_
  refine wpAny_Compare1 ?_
  refine nm_l C (by walk_at "lk") ?_ rfl rfl (by decide)
  with_reducible refine k_int C fun t s C => ?_
  refine eq_int ?_
  refine wpAny_truthy_bool ?_
  by_cases h0 : y = 0
  · subst h0
    refine ite_t (by decide) ?_
    try walk_at "rt"
    exact kQ _ _ _ _ C (fun C => K _ _ ⟨fun _ => covers_zero, fun _ => by decide⟩ C)
  · refine ite_f (by simpa using h0) ?_
    refine BoolOp_one ?_
    refine BoolOp_and ?_
    refine wpAny_Compare1 ?_
    refine nm_l C (by walk_at "lk") ?_ rfl rfl (by decide)
    with_reducible refine k_int C fun t s C => ?_
    refine ge_int ?_
    refine wpAny_truthy_bool ?_
    by_cases hk : 0 < x
    · refine ite_t (decide_eq_true (by lia)) ?_
      refine BoolOp_one ?_
      have hx := B.le
      obtain ⟨v, hv1, tt, k1, k2, j, rfl, hv2⟩ := hv.get (x - 1) (by lia)
      refine opv fun _ _ => ?_
      refine wpAny_Compare1 ?_
      refine wpAny_BinOp ?_
      refine nm_l C (by walk_at "lk") ?_ rfl rfl (by decide)
      refine nm_l C (by walk_at "lk") ?_ rfl rfl (by decide)
      with_reducible refine a_add C fun t s C => ?_
      refine opv fun _ _ => ?_
      refine Subscript_ ?_
      refine Subscript_ ?_
      refine Attribute_any_ ?_
      refine nm_l C (by walk_at "lk") ?_ rfl rfl (by decide)
      refine at_rows C hr fun s C => ?_
      refine nm_l C (by walk_at "lk") ?_ rfl rfl (by decide)
      refine it_list C hl (by omega) (by lia) (x := .ref tt) (by rw [show ((x : Int) - 1).toNat = x - 1 by lia]; exact hv1) ?_ (by with_unfolding_all rfl)
      with_reducible refine k_int C fun t s C => ?_
      refine it_tup C hv2 (by decide) (by decide) rfl rfl ?_ (by with_unfolding_all rfl)
      walk_at "op"
      refine le_int ?_
      walk_at "op"
      try walk_at "rt"
      refine kQ _ _ _ _ C (fun C => K _ _ ?_ C)
      rw [decide_eq_true_eq, ← has_iff hg B (by lia)]
      exact ⟨fun q => ⟨hk, q⟩, fun ⟨_, q⟩ => q⟩
    · refine ite_f (decide_eq_false (by lia)) ?_
      try walk_at "rt"
      refine kQ _ _ _ _ C (fun C => K _ _ ?_ C)
      rw [decide_eq_true_eq, ← has_iff hg B (by omega)]
      exact ⟨fun q => by omega, fun ⟨q, _⟩ => absurd q hk⟩
theorem spec_some {r l : Addr} {items : List Value} {k : Nat} {rows : Rows} {b y : Int} {t1 t2 : Tok} {Q : Value → Shared → Prop} (C : Cx w c A (n + 2) m led s)
    (R : RgSt led r l items k rows) (hb : 0 ≤ b) (hy : 0 ≤ y) (K : ∀ v s, (v = true ↔ Meets rows b y) → Cx w c A (n + 2) m led s → Q (.bool v) s) :
    wpAny (model prog w) A (call (.ref 97) [.ref r, .int b t1, .int y t2]) Q E s := by
  have hr := R.hr; have hl := R.hl; have hv := R.hv; have hg := R.hg; have hz := R.hg.len
  have hlen := hv.len
  refine enter0 (binds := [(Str.ofString "self", .ref r), (Str.ofString "begin", .int b t1), (Str.ofString "many", .int y t2)]) C (by k_is) (by k_is) (BindsTo.of_eq rfl) (locs rfl) (fun c A E s C Qr kQ => ?_) rfl rfl rfl (by decide)
  walk_at "xc"
  refine wpAny_Expr_any ?_
  refine MethodCall_ ?_
  refine nm_l C (by walk_at "lk") ?_ rfl rfl (by decide)
  refine mr_want C hr ?_
  refine cw_more C (by k_is) ?_
  refine spliced_more ?_
  refine nm_l C (by walk_at "lk") ?_ rfl rfl (by decide)
  refine spliced_more ?_
  refine nm_l C (by walk_at "lk") ?_ rfl rfl (by decide)
  refine spliced_none ?_
  refine ⟨C.Xs, ?_⟩
  refine spec_want C hb hy fun s C => ?_
  walk_at "xc"
  refine wpAny_Assign_Name ?_
  refine opv fun _ _ => ?_
  refine wpAny_BinOp ?_
  refine opv fun _ _ => ?_
  refine MethodCall_ ?_
  refine nm_l C (by walk_at "lk") ?_ rfl rfl (by decide)
  refine mr_behind C hr ?_
  refine cw_more C (by k_is) ?_
  refine spliced_more ?_
  refine wpAny_BinOp ?_
  refine wpAny_BinOp ?_
  refine nm_l C (by walk_at "lk") ?_ rfl rfl (by decide)
  refine nm_l C (by walk_at "lk") ?_ rfl rfl (by decide)
  with_reducible refine a_add C fun t s C => ?_
  with_reducible refine k_int C fun t s C => ?_
  with_reducible refine a_sub C fun t s C => ?_
  refine spliced_none ?_
  refine ⟨C.Xs, ?_⟩
  refine spec_behind C R fun x t s B C => ?_
  walk_at "op"
  with_reducible refine k_int C fun t s C => ?_
  with_reducible refine a_sub C fun t s C => ?_
  walk_at "op"
  refine st_l C (fun s C => ?_) rfl rfl
  walk_at "xc"
  refine wpAny_Return_some ?_
  refine BoolOp_and ?_
  refine wpAny_Compare1 ?_
  refine nm_l C (by walk_at "lk") ?_ rfl rfl (by decide)
  with_reducible refine k_int C fun t s C => ?_
  refine gt_int ?_
  refine wpAny_truthy_bool ?_
  by_cases h0 : 0 < y
  · refine ite_t (decide_eq_true h0) ?_
    refine BoolOp_and ?_
    refine wpAny_Compare1 ?_
    refine nm_l C (by walk_at "lk") ?_ rfl rfl (by decide)
    with_reducible refine k_int C fun t s C => ?_
    refine ge_int ?_
    refine wpAny_truthy_bool ?_
    by_cases hk : 0 < x
    · refine ite_t (decide_eq_true (by omega)) ?_
      refine BoolOp_one ?_
      have hx := B.le
      obtain ⟨v, hv1, tt, k1, k2, j, rfl, hv2⟩ := hv.get (x - 1) (by omega)
      refine opv fun _ _ => ?_
      refine wpAny_Compare1 ?_
      refine opv fun _ _ => ?_
      refine Subscript_ ?_
      refine Subscript_ ?_
      refine Attribute_any_ ?_
      refine nm_l C (by walk_at "lk") ?_ rfl rfl (by decide)
      refine at_rows C hr fun s C => ?_
      refine nm_l C (by walk_at "lk") ?_ rfl rfl (by decide)
      refine it_list C hl (by omega) (by omega) (x := .ref tt) (by rw [show ((x : Int) - 1).toNat = x - 1 by omega]; exact hv1) ?_ (by with_unfolding_all rfl)
      with_reducible refine k_int C fun t s C => ?_
      refine it_tup C hv2 (by decide) (by decide) rfl rfl ?_ (by with_unfolding_all rfl)
      walk_at "op"
      refine nm_l C (by walk_at "lk") ?_ rfl rfl (by decide)
      refine gt_int ?_
      walk_at "op"
      try walk_at "rt"
      refine kQ _ _ _ _ C (fun C => K _ _ ?_ C)
      rw [decide_eq_true_eq, ← some_iff hg B h0]
      exact ⟨fun q => ⟨hk, q⟩, fun ⟨_, q⟩ => q⟩
    · refine ite_f (decide_eq_false (by omega)) ?_
      try walk_at "rt"
      refine kQ _ _ _ _ C (fun C => K _ _ ?_ C)
      rw [decide_eq_true_eq, ← some_iff hg B h0]
      exact ⟨fun q => by omega, fun ⟨q, _⟩ => absurd q hk⟩
  · refine ite_f (decide_eq_false h0) ?_
    try walk_at "rt"
    refine kQ _ _ _ _ C (fun C => K _ _ ?_ C)
    rw [decide_eq_true_eq]
    exact ⟨fun q => absurd q h0, fun q => absurd q (meets_zero (by lia))⟩
end
end Mine
end

section
open PySem PySem.W PySem.Calls PyProof.Rows
namespace Mine
section
variable {prog : Program} {w : World} {c : Cfg} {A : Around} {n : Nat} {m : Loc} {led : Led} {s : Shared} {E : Value → Shared → Prop}
theorem if_join {env : Env} {test : PySem.Expr} {body orelse : List Stmt} {pos : Pos} {Q : Flow → Shared → Prop} (J : Shared → Prop)
    (h : ∀ Qj : Flow → Shared → Prop, (∀ s, J s → Qj .next s) → wpAny (model prog w) A (isTrue test env (eval test env)) (fun b s₂ => if b = true then wpAny (model prog w) A (execs body env) Qj E s₂ else wpAny (model prog w) A (execs orelse env) Qj E s₂) E s)
    (k : ∀ s, J s → Q .next s) : wpAny (model prog w) A (exec (.If test body orelse pos) env) Q E s :=
  wpAny_If (wpAny_mono (h (fun f s' => f = .next ∧ J s') fun _ z => ⟨rfl, z⟩) (fun b s₂ h₂ => by
    cases b
    · rw [if_neg (by decide)] at h₂ ⊢; exact wpAny_mono h₂ (fun f s' z => by obtain ⟨rfl, z⟩ := z; exact k _ z) fun _ _ z => z
    · rw [if_pos rfl] at h₂ ⊢; exact wpAny_mono h₂ (fun f s' z => by obtain ⟨rfl, z⟩ := z; exact k _ z) fun _ _ z => z) fun _ _ z => z)
inductive J3a (w : World) (c : Cfg) (A : Around) (n : Nat) (led : Led) (r : Addr) (b e : Int) (t1 : Tok) (P : Nat → Prop) (s : Shared) : Prop
  | mk (lo : Nat) (m : Loc) (t t' : Tok) (C : Cx w c A n m led s) (m1 : m (Str.ofString "self") = some (.ref r)) (m2 : m (Str.ofString "begin") = some (.int b t1)) (m3 : m (Str.ofString "end") = some (.int e t')) (m4 : m (Str.ofString "low") = some (.int lo t)) (L : P lo) : J3a w c A n led r b e t1 P s
inductive J3b (w : World) (c : Cfg) (A : Around) (n : Nat) (led : Led) (r : Addr) (lo hi : Nat) (P : Int → Int → Prop) (s : Shared) : Prop
  | mk (m : Loc) (b' e' : Int) (t t' t'' t''' : Tok) (C : Cx w c A n m led s) (m1 : m (Str.ofString "self") = some (.ref r)) (m2 : m (Str.ofString "begin") = some (.int b' t)) (m3 : m (Str.ofString "end") = some (.int e' t')) (m4 : m (Str.ofString "low") = some (.int lo t'')) (m5 : m (Str.ofString "high") = some (.int hi t''')) (G : P b' e') : J3b w c A n led r lo hi P s
theorem spec_put {r l : Addr} {items : List Value} {k : Nat} {rows : Rows} {b y : Int} {t1 t2 : Tok} {Q : Value → Shared → Prop} (C : Cx w c A (n + 2) m ((l, lstO items k) :: led) s)
    (hr : RgAt led r l) (hv : RowsV led items rows) (hg : Rg rows) (hb : 0 ≤ b) (hy : 0 < y) (hz : b + y ≤ 1000)
    (K : ∀ items' k' rows' tl s, Rg rows' → (∀ x, Mem rows' x ↔ Mem rows x ∨ (b ≤ x ∧ x < b + y)) → RowsV (tl ++ led) items' rows' → Cx w c A (n + 2) m ((l, lstO items' k') :: (tl ++ led)) s → Q .none s) :
    wpAny (model prog w) A (call (.ref 155) [.ref r, .int b t1, .int y t2]) Q E s := by
  have hlen := hv.len
  have hln := hg.len
  have R : RgSt ((l, lstO items k) :: led) r l items k rows := ⟨hr.mono fun p hp => .tail _ hp, .head _, hv.mono fun p hp => .tail _ hp, hg⟩
  have hr' := R.hr; have hl := R.hl; have hv' := R.hv
  refine enter0 (binds := [(Str.ofString "self", .ref r), (Str.ofString "begin", .int b t1), (Str.ofString "many", .int y t2)]) C (by k_is) (by k_is) (BindsTo.of_eq rfl) (locs rfl) (fun c A E s C Qr kQ => ?_) rfl rfl rfl (by decide)
  walk_at "xc"
  refine wpAny_Expr_any ?_
  refine MethodCall_ ?_
  refine nm_l C (by walk_at "lk") ?_ rfl rfl (by decide)
  refine mr_want C hr' ?_
  refine cw_more C (by k_is) ?_
  refine spliced_more ?_
  refine nm_l C (by walk_at "lk") ?_ rfl rfl (by decide)
  refine spliced_more ?_
  refine nm_l C (by walk_at "lk") ?_ rfl rfl (by decide)
  refine spliced_none ?_
  refine ⟨C.Xs, ?_⟩
  refine spec_want C hb (by lia) fun s C => ?_
  walk_at "xc"
  refine wpAny_If ?_
  refine wpAny_isTrue_Compare1 ?_
  refine nm_l C (by walk_at "lk") ?_ rfl rfl (by decide)
  with_reducible refine k_int C fun t s C => ?_
  refine eq_int ?_
  refine wpAny_truthy_bool ?_
  refine ite_f (by simp; lia) ?_
  walk_at "xn"
  walk_at "xc"
  refine Assign_Tuple_swapped (names := [Str.ofString "end", Str.ofString "low"]) ?_
  refine opv fun _ _ => ?_
  refine Tuple_ ?_
  refine spliced_more ?_
  refine wpAny_BinOp ?_
  refine nm_l C (by walk_at "lk") ?_ rfl rfl (by decide)
  refine nm_l C (by walk_at "lk") ?_ rfl rfl (by decide)
  with_reducible refine a_add C fun t s C => ?_
  refine spliced_more ?_
  refine MethodCall_ ?_
  refine nm_l C (by walk_at "lk") ?_ rfl rfl (by decide)
  refine mr_behind C hr' ?_
  refine cw_more C (by k_is) ?_
  refine spliced_more ?_
  refine nm_l C (by walk_at "lk") ?_ rfl rfl (by decide)
  refine spliced_none ?_
  refine ⟨C.Xs, ?_⟩
  refine spec_behind C R fun x t s B C => ?_
  refine spliced_none ?_
  refine mk_tup C (Nat.le_of_ble_eq_true rfl) fun D s C => ?_
  walk_at "op"
  refine unpack_tup C (.head _) rfl fun s C => ?_
  replace C := C.drop
  refine assignInOrder_cons ?_
  refine bd_l C (fun s C => ?_) rfl rfl
  refine assignInOrder_cons ?_
  refine bd_l C (fun s C => ?_) rfl rfl
  refine assignInOrder_nil ?_
  have hx := B.le
  walk_at "xc"
  refine if_join (J3a w c A (n + 1) ((l, lstO items k) :: led) r b (b + y) t1 (Low rows b)) ?_ ?_
  · intro Qj kJ
    refine isTrue_and ?_
    refine wpAny_isTrue_Compare1 ?_
    refine nm_l C (by walk_at "lk") ?_ rfl rfl (by decide)
    with_reducible refine k_int C fun t s C => ?_
    refine gt_int ?_
    refine wpAny_truthy_bool ?_
    by_cases hk : 0 < x
    · refine ite_t (decide_eq_true (by lia)) ?_
      refine isTrue_and ?_
      obtain ⟨v, hv1, tt, k1, k2, j, rfl, hv2⟩ := hv'.get (x - 1) (by omega)
      refine opv fun _ _ => ?_
      refine wpAny_isTrue_Compare1 ?_
      refine opv fun _ _ => ?_
      refine Subscript_ ?_
      refine opv fun _ _ => ?_
      refine Subscript_ ?_
      refine Attribute_any_ ?_
      refine nm_l C (by walk_at "lk") ?_ rfl rfl (by decide)
      refine at_rows C hr' fun s C => ?_
      refine wpAny_BinOp ?_
      refine nm_l C (by walk_at "lk") ?_ rfl rfl (by decide)
      with_reducible refine k_int C fun t s C => ?_
      with_reducible refine a_sub C fun t s C => ?_
      refine it_list C hl (by lia) (by lia) (x := .ref tt) (by rw [show ((x : Int) - 1).toNat = x - 1 by lia]; exact hv1) ?_ (by with_unfolding_all rfl)
      walk_at "op"
      with_reducible refine k_int C fun t s C => ?_
      refine it_tup C hv2 (by decide) (by decide) rfl rfl ?_ (by with_unfolding_all rfl)
      walk_at "op"
      refine nm_l C (by walk_at "lk") ?_ rfl rfl (by decide)
      refine ge_int ?_
      refine wpAny_truthy_bool ?_
      walk_at "op"
      refine ite_dec (fun g => ?_) (fun g => ?_)
      · refine isTrue_and_nil ?_
        refine ite_t rfl ?_
        walk_at "xc"
        refine wpAny_Assign_Name ?_
        refine wpAny_BinOp ?_
        refine nm_l C (by walk_at "lk") ?_ rfl rfl (by decide)
        with_reducible refine k_int C fun t s C => ?_
        with_reducible refine a_sub C fun t s C => ?_
        refine st_l C (fun s C => ?_) rfl rfl
        walk_at "xn"
        rw [show (x : Int) - 1 = ((x - 1 : Nat) : Int) by lia] at C
        refine kJ _ ⟨x - 1, _, _, _, C, by walk_at "lk", by walk_at "lk", by walk_at "lk", by walk_at "lk", (low_of hg B).1 hk g⟩
      · refine ite_f rfl ?_
        walk_at "xn"
        exact kJ _ ⟨x, _, _, _, C, by walk_at "lk", by walk_at "lk", by walk_at "lk", by walk_at "lk", (low_of hg B).2 fun _ => Int.not_le.mp g⟩
    · refine ite_f (decide_eq_false (by lia)) ?_
      refine ite_f rfl ?_
      walk_at "xn"
      exact kJ _ ⟨x, _, _, _, C, by walk_at "lk", by walk_at "lk", by walk_at "lk", by walk_at "lk", (low_of hg B).2 fun q => absurd q hk⟩
  rintro s ⟨lo, m, t, t', C, m1, m2, m3, m4, L⟩
  have hlo := L.le
  walk_at "xc"
  refine wpAny_Assign_Name ?_
  refine MethodCall_ ?_
  refine nm_l C (by walk_at "lk") ?_ rfl rfl (by decide)
  refine mr_behind C hr' ?_
  refine cw_more C (by k_is) ?_
  refine spliced_more ?_
  refine nm_l C (by walk_at "lk") ?_ rfl rfl (by decide)
  refine spliced_none ?_
  refine ⟨C.Xs, ?_⟩
  refine spec_behind C R fun hi t s B2 C => ?_
  refine st_l C (fun s C => ?_) rfl rfl
  have hhi := B2.le
  obtain ⟨P1, P2, P3⟩ := put_ok hg L B2 (by lia) hb hz
  walk_at "xc"
  refine if_join (J3b w c A (n + 1) ((l, lstO items k) :: led) r lo hi fun b' e' => Rg (rows.take lo ++ [(b', e')] ++ rows.drop hi) ∧ ∀ x, Mem (rows.take lo ++ [(b', e')] ++ rows.drop hi) x ↔ Mem rows x ∨ (b ≤ x ∧ x < b + y)) ?_ ?_
  · intro Qj kJ
    refine wpAny_isTrue_Compare1 ?_
    refine nm_l C (by walk_at "lk") ?_ rfl rfl (by decide)
    refine nm_l C (by walk_at "lk") ?_ rfl rfl (by decide)
    refine lt_int ?_
    refine wpAny_truthy_bool ?_
    refine ite_dec (fun g => ?_) (fun g => ?_)
    · walk_at "xc"
      refine Assign_Tuple_swapped (names := [Str.ofString "begin", Str.ofString "end"]) ?_
      obtain ⟨v, hv1, tt, k1, k2, j, rfl, hv2⟩ := hv'.get lo (by lia)
      obtain ⟨v, hv3, tt', k3, k4, j', rfl, hv4⟩ := hv'.get (hi - 1) (by omega)
      refine opv fun _ _ => ?_
      refine Tuple_ ?_
      refine spliced_more ?_
      refine opv fun _ _ => ?_
      refine Call_ ?_
      refine nm_b C (by k_is) (by boot_fast) ?_ (by decide) rfl rfl (by decide)
      refine PyProof.Rows.callWith_builtin1 ?_
      refine spliced_more ?_
      refine nm_l C (by walk_at "lk") ?_ rfl rfl (by decide)
      refine spliced_more ?_
      refine opv fun _ _ => ?_
      refine Subscript_ ?_
      refine Subscript_ ?_
      refine Attribute_any_ ?_
      refine nm_l C (by walk_at "lk") ?_ rfl rfl (by decide)
      refine at_rows C hr' fun s C => ?_
      refine nm_l C (by walk_at "lk") ?_ rfl rfl (by decide)
      refine it_list C hl (by lia) (by lia) (x := .ref tt) (by simpa using hv1) ?_ (by with_unfolding_all rfl)
      with_reducible refine k_int C fun t s C => ?_
      refine it_tup C hv2 (by decide) (by decide) rfl rfl ?_ (by with_unfolding_all rfl)
      walk_at "op"
      refine spliced_none ?_
      refine b_min C fun t s C => ?_
      walk_at "op"
      refine spliced_more ?_
      refine opv fun _ _ => ?_
      refine Call_ ?_
      refine nm_b C (by k_is) (by boot_fast) ?_ (by decide) rfl rfl (by decide)
      refine PyProof.Rows.callWith_builtin1 ?_
      refine spliced_more ?_
      refine nm_l C (by walk_at "lk") ?_ rfl rfl (by decide)
      refine spliced_more ?_
      refine opv fun _ _ => ?_
      refine Subscript_ ?_
      refine opv fun _ _ => ?_
      refine Subscript_ ?_
      refine Attribute_any_ ?_
      refine nm_l C (by walk_at "lk") ?_ rfl rfl (by decide)
      refine at_rows C hr' fun s C => ?_
      refine wpAny_BinOp ?_
      refine nm_l C (by walk_at "lk") ?_ rfl rfl (by decide)
      with_reducible refine k_int C fun t s C => ?_
      with_reducible refine a_sub C fun t s C => ?_
      refine it_list C hl (by lia) (by lia) (x := .ref tt') (by rw [show ((hi : Int) - 1).toNat = hi - 1 by lia]; exact hv3) ?_ (by with_unfolding_all rfl)
      walk_at "op"
      with_reducible refine k_int C fun t s C => ?_
      refine it_tup C hv4 (by decide) (by decide) rfl rfl ?_ (by with_unfolding_all rfl)
      walk_at "op"
      refine spliced_none ?_
      refine b_max C fun t s C => ?_
      walk_at "op"
      refine spliced_none ?_
      refine mk_tup C (Nat.le_of_ble_eq_true rfl) fun D s C => ?_
      walk_at "op"
      refine unpack_tup C (.head _) rfl fun s C => ?_
      replace C := C.drop
      refine assignInOrder_cons ?_
      refine bd_l C (fun s C => ?_) rfl rfl
      refine assignInOrder_cons ?_
      refine bd_l C (fun s C => ?_) rfl rfl
      refine assignInOrder_nil ?_
      walk_at "xn"
      exact kJ _ ⟨_, _, _, _, _, _, _, C, by walk_at "lk", by walk_at "lk", by walk_at "lk", by walk_at "lk", by walk_at "lk", P2 (by lia)⟩
    · walk_at "xn"
      exact kJ _ ⟨_, _, _, _, _, _, _, C, by walk_at "lk", by walk_at "lk", by walk_at "lk", by walk_at "lk", by walk_at "lk", P3 (by lia)⟩
  rintro s ⟨m, b', e', t, t', t'', t''', C, m1, m2, m3, m4, m5, ⟨G1, G2⟩⟩
  walk_at "xc"
  refine wpAny_Assign_Subscript ?_
  refine List_ ?_
  refine spliced_more ?_
  refine Tuple_ ?_
  refine spliced_more ?_
  refine nm_l C (by walk_at "lk") ?_ rfl rfl (by decide)
  refine spliced_more ?_
  refine nm_l C (by walk_at "lk") ?_ rfl rfl (by decide)
  refine spliced_none ?_
  refine mk_tup C (Nat.le_of_ble_eq_true rfl) fun D s C => ?_
  refine spliced_none ?_
  refine mk_list C (Nat.le_of_ble_eq_true rfl) fun D s C => ?_
  refine Attribute_any_ ?_
  refine nm_l C (by walk_at "lk") ?_ rfl rfl (by decide)
  refine at_rows C (hr'.mono fun p hp => .tail _ (.tail _ hp)) fun s C => ?_
  refine x_slice ?_
  refine evalPart_some_step ?_
  refine nm_l C (by walk_at "lk") ?_ rfl rfl (by decide)
  refine evalPart_some_step ?_
  refine nm_l C (by walk_at "lk") ?_ rfl rfl (by decide)
  refine evalPart_none_step ?_
  refine slc C fun D3 s C hS => ?_
  replace C := Cx.pull (a := [_, _]) C
  refine set_slice C hS (.head _) P1 (by lia) (by simp; lia) fun k' s C => ?_
  walk_at "xn"
  try walk_at "rt"
  refine kQ _ _ _ _ C (fun C => K _ _ _ [_, _] _ G1 G2 ?_ C)
  exact (((hv.mono fun p hp => List.mem_append_right _ hp).take lo).append (RowsV.one ⟨_, _, _, _, rfl, .tail _ (.head _)⟩)).append ((hv.mono fun p hp => List.mem_append_right _ hp).drop hi)
end
end Mine
end

section
open PySem PySem.W PySem.Calls PyProof.Rows
namespace Mine
section
variable {prog : Program} {w : World} {c : Cfg} {A : Around} {n : Nat} {m : Loc} {led : Led} {s : Shared} {E : Value → Shared → Prop}
inductive J4b (w : World) (c : Cfg) (A : Around) (n : Nat) (led : Led) (r lf : Addr) (lo hi : Nat) (N : Nat) (P : Rows → Prop) (s : Shared) : Prop
  | mk (m : Loc) (its : List Value) (new : Rows) (tl : Led) (j : Nat) (t'' t''' : Tok) (C : Cx w c A n m ((lf, lstO its j) :: (tl ++ led)) s) (m1 : m (Str.ofString "self") = some (.ref r)) (m2 : m (Str.ofString "left") = some (.ref lf)) (m3 : m (Str.ofString "low") = some (.int lo t'')) (m4 : m (Str.ofString "high") = some (.int hi t''')) (W1 : RowsV tl its new) (W2 : its.length ≤ N) (G : P new) : J4b w c A n led r lf lo hi N P s
inductive J4c (w : World) (c : Cfg) (A : Around) (n : Nat) (led : Led) (r lf : Addr) (lo hi : Nat) (e last : Int) (new : Rows) (s : Shared) : Prop
  | mk (m : Loc) (its : List Value) (tl : Led) (j : Nat) (t3 t4 t5 t6 : Tok) (C : Cx w c A n m ((lf, lstO its j) :: (tl ++ led)) s) (m1 : m (Str.ofString "self") = some (.ref r)) (m2 : m (Str.ofString "left") = some (.ref lf)) (m3 : m (Str.ofString "low") = some (.int lo t3)) (m4 : m (Str.ofString "high") = some (.int hi t4)) (m5 : m (Str.ofString "end") = some (.int e t5)) (m6 : m (Str.ofString "last") = some (.int last t6)) (W1 : RowsV tl its new) (W2 : its.length ≤ 1) : J4c w c A n led r lf lo hi e last new s
inductive J4d (w : World) (c : Cfg) (A : Around) (n : Nat) (led : Led) (r lf : Addr) (lo hi : Nat) (new : Rows) (s : Shared) : Prop
  | mk (m : Loc) (its : List Value) (tl : Led) (j : Nat) (t3 t4 : Tok) (C : Cx w c A n m ((lf, lstO its j) :: (tl ++ led)) s) (m1 : m (Str.ofString "self") = some (.ref r)) (m2 : m (Str.ofString "left") = some (.ref lf)) (m3 : m (Str.ofString "low") = some (.int lo t3)) (m4 : m (Str.ofString "high") = some (.int hi t4)) (W1 : RowsV tl its new) (W2 : its.length ≤ 2) : J4d w c A n led r lf lo hi new s
theorem spec_cut {r l : Addr} {items : List Value} {k : Nat} {rows : Rows} {b y : Int} {t1 t2 : Tok} {Q : Value → Shared → Prop} (C : Cx w c A (n + 2) m ((l, lstO items k) :: led) s)
    (hr : RgAt led r l) (hv : RowsV led items rows) (hg : Rg rows) (hb : 0 ≤ b) (hy : 0 < y)
    (K : ∀ items' k' rows' tl s, Rg rows' → (∀ x, Mem rows' x ↔ Mem rows x ∧ ¬ (b ≤ x ∧ x < b + y)) → RowsV (tl ++ led) items' rows' → Cx w c A (n + 2) m ((l, lstO items' k') :: (tl ++ led)) s → Q .none s) :
    wpAny (model prog w) A (call (.ref 162) [.ref r, .int b t1, .int y t2]) Q E s := by
  have hlen := hv.len
  have hln := hg.len
  have R : RgSt ((l, lstO items k) :: led) r l items k rows := ⟨hr.mono fun p hp => .tail _ hp, .head _, hv.mono fun p hp => .tail _ hp, hg⟩
  have hr' := R.hr; have hl := R.hl; have hv' := R.hv
  refine enter0 (binds := [(Str.ofString "self", .ref r), (Str.ofString "begin", .int b t1), (Str.ofString "many", .int y t2)]) C (by k_is) (by k_is) (BindsTo.of_eq rfl) (locs rfl) (fun c A E s C Qr kQ => ?_) rfl rfl rfl (by decide)
  walk_at "xc"
  refine wpAny_Expr_any ?_
  refine MethodCall_ ?_
  refine nm_l C (by walk_at "lk") ?_ rfl rfl (by decide)
  refine mr_want C hr' ?_
  refine cw_more C (by k_is) ?_
  refine spliced_more ?_
  refine nm_l C (by walk_at "lk") ?_ rfl rfl (by decide)
  refine spliced_more ?_
  refine nm_l C (by walk_at "lk") ?_ rfl rfl (by decide)
  refine spliced_none ?_
  refine ⟨C.Xs, ?_⟩
  refine spec_want C hb (by lia) fun s C => ?_
  walk_at "xc"
  refine wpAny_If ?_
  refine wpAny_isTrue_Compare1 ?_
  refine nm_l C (by walk_at "lk") ?_ rfl rfl (by decide)
  with_reducible refine k_int C fun t s C => ?_
  refine eq_int ?_
  refine wpAny_truthy_bool ?_
  refine ite_f (by simp; lia) ?_
  walk_at "xn"
  walk_at "xc"
  refine Assign_Tuple_swapped (names := [Str.ofString "end", Str.ofString "low"]) ?_
  refine opv fun _ _ => ?_
  refine Tuple_ ?_
  refine spliced_more ?_
  refine wpAny_BinOp ?_
  refine nm_l C (by walk_at "lk") ?_ rfl rfl (by decide)
  refine nm_l C (by walk_at "lk") ?_ rfl rfl (by decide)
  with_reducible refine a_add C fun t s C => ?_
  refine spliced_more ?_
  refine MethodCall_ ?_
  refine nm_l C (by walk_at "lk") ?_ rfl rfl (by decide)
  refine mr_behind C hr' ?_
  refine cw_more C (by k_is) ?_
  refine spliced_more ?_
  refine nm_l C (by walk_at "lk") ?_ rfl rfl (by decide)
  refine spliced_none ?_
  refine ⟨C.Xs, ?_⟩
  refine spec_behind C R fun x t s B C => ?_
  refine spliced_none ?_
  refine mk_tup C (Nat.le_of_ble_eq_true rfl) fun D s C => ?_
  walk_at "op"
  refine unpack_tup C (.head _) rfl fun s C => ?_
  replace C := C.drop
  refine assignInOrder_cons ?_
  refine bd_l C (fun s C => ?_) rfl rfl
  refine assignInOrder_cons ?_
  refine bd_l C (fun s C => ?_) rfl rfl
  refine assignInOrder_nil ?_
  have hx := B.le
  walk_at "xc"
  refine if_join (J3a w c A (n + 1) ((l, lstO items k) :: led) r b (b + y) t1 (LowC rows b)) ?_ ?_
  · intro Qj kJ
    refine isTrue_and ?_
    refine wpAny_isTrue_Compare1 ?_
    refine nm_l C (by walk_at "lk") ?_ rfl rfl (by decide)
    with_reducible refine k_int C fun t s C => ?_
    refine gt_int ?_
    refine wpAny_truthy_bool ?_
    by_cases hk : 0 < x
    · refine ite_t (decide_eq_true (by lia)) ?_
      refine isTrue_and ?_
      obtain ⟨v, hv1, tt, k1, k2, j, rfl, hv2⟩ := hv'.get (x - 1) (by omega)
      refine opv fun _ _ => ?_
      refine wpAny_isTrue_Compare1 ?_
      refine opv fun _ _ => ?_
      refine Subscript_ ?_
      refine opv fun _ _ => ?_
      refine Subscript_ ?_
      refine Attribute_any_ ?_
      refine nm_l C (by walk_at "lk") ?_ rfl rfl (by decide)
      refine at_rows C hr' fun s C => ?_
      refine wpAny_BinOp ?_
      refine nm_l C (by walk_at "lk") ?_ rfl rfl (by decide)
      with_reducible refine k_int C fun t s C => ?_
      with_reducible refine a_sub C fun t s C => ?_
      refine it_list C hl (by lia) (by lia) (x := .ref tt) (by rw [show ((x : Int) - 1).toNat = x - 1 by lia]; exact hv1) ?_ (by with_unfolding_all rfl)
      walk_at "op"
      with_reducible refine k_int C fun t s C => ?_
      refine it_tup C hv2 (by decide) (by decide) rfl rfl ?_ (by with_unfolding_all rfl)
      walk_at "op"
      refine nm_l C (by walk_at "lk") ?_ rfl rfl (by decide)
      refine gt_int ?_
      refine wpAny_truthy_bool ?_
      walk_at "op"
      refine ite_dec (fun g => ?_) (fun g => ?_)
      · refine isTrue_and_nil ?_
        refine ite_t rfl ?_
        walk_at "xc"
        refine wpAny_Assign_Name ?_
        refine wpAny_BinOp ?_
        refine nm_l C (by walk_at "lk") ?_ rfl rfl (by decide)
        with_reducible refine k_int C fun t s C => ?_
        with_reducible refine a_sub C fun t s C => ?_
        refine st_l C (fun s C => ?_) rfl rfl
        walk_at "xn"
        rw [show (x : Int) - 1 = ((x - 1 : Nat) : Int) by lia] at C
        refine kJ _ ⟨x - 1, _, _, _, C, by walk_at "lk", by walk_at "lk", by walk_at "lk", by walk_at "lk", (lowc_of hg B).1 hk g⟩
      · refine ite_f rfl ?_
        walk_at "xn"
        exact kJ _ ⟨x, _, _, _, C, by walk_at "lk", by walk_at "lk", by walk_at "lk", by walk_at "lk", (lowc_of hg B).2 fun _ => Int.not_lt.mp g⟩
    · refine ite_f (decide_eq_false (by lia)) ?_
      refine ite_f rfl ?_
      walk_at "xn"
      exact kJ _ ⟨x, _, _, _, C, by walk_at "lk", by walk_at "lk", by walk_at "lk", by walk_at "lk", (lowc_of hg B).2 fun q => absurd q hk⟩
  rintro s ⟨lo, m, t, t', C, m1, m2, m3, m4, L⟩
  have hlo := L.le
  walk_at "xc"
  refine Assign_Tuple_swapped (names := [Str.ofString "high", Str.ofString "left"]) ?_
  refine opv fun _ _ => ?_
  refine Tuple_ ?_
  refine spliced_more ?_
  refine opv fun _ _ => ?_
  refine MethodCall_ ?_
  refine nm_l C (by walk_at "lk") ?_ rfl rfl (by decide)
  refine mr_behind C hr' ?_
  refine cw_more C (by k_is) ?_
  refine spliced_more ?_
  refine wpAny_BinOp ?_
  refine nm_l C (by walk_at "lk") ?_ rfl rfl (by decide)
  with_reducible refine k_int C fun t s C => ?_
  with_reducible refine a_sub C fun t s C => ?_
  refine spliced_none ?_
  refine ⟨C.Xs, ?_⟩
  refine spec_behind C R fun hi t s B2 C => ?_
  walk_at "op"
  refine spliced_more ?_
  refine List_ ?_
  refine spliced_none ?_
  refine mk_list C (Nat.le_of_ble_eq_true rfl) fun lf s C => ?_
  refine spliced_none ?_
  refine mk_tup C (Nat.le_of_ble_eq_true rfl) fun D s C => ?_
  walk_at "op"
  refine unpack_tup C (.head _) rfl fun s C => ?_
  replace C := C.drop
  refine assignInOrder_cons ?_
  refine bd_l C (fun s C => ?_) rfl rfl
  refine assignInOrder_cons ?_
  refine bd_l C (fun s C => ?_) rfl rfl
  refine assignInOrder_nil ?_
  have hhi := B2.le
  obtain ⟨P1, P2, P3⟩ := cut_ok hg L B2 (by lia)
  walk_at "xc"
  refine if_join (J4b w c A (n + 1) ((l, lstO items k) :: led) r lf lo hi 2 fun new => Rg (rows.take lo ++ new ++ rows.drop hi) ∧ ∀ x, Mem (rows.take lo ++ new ++ rows.drop hi) x ↔ Mem rows x ∧ ¬ (b ≤ x ∧ x < b + y)) ?_ ?_
  · intro Qj kJ
    refine wpAny_isTrue_Compare1 ?_
    refine nm_l C (by walk_at "lk") ?_ rfl rfl (by decide)
    refine nm_l C (by walk_at "lk") ?_ rfl rfl (by decide)
    refine lt_int ?_
    refine wpAny_truthy_bool ?_
    refine ite_dec (fun g => ?_) (fun g => ?_)
    · walk_at "xc"
      refine Assign_Tuple_swapped (names := [Str.ofString "first", Str.ofString "last"]) ?_
      obtain ⟨v, hv1, tt, k1, k2, j, rfl, hv2⟩ := hv'.get lo (by lia)
      obtain ⟨v, hv3, tt', k3, k4, j', rfl, hv4⟩ := hv'.get (hi - 1) (by omega)
      have up : ∀ p ∈ (l, lstO items k) :: led, p ∈ (lf, lstO [] 0) :: (l, lstO items k) :: led := fun p hp => .tail _ hp
      refine opv fun _ _ => ?_
      refine Tuple_ ?_
      refine spliced_more ?_
      refine opv fun _ _ => ?_
      refine Subscript_ ?_
      refine Subscript_ ?_
      refine Attribute_any_ ?_
      refine nm_l C (by walk_at "lk") ?_ rfl rfl (by decide)
      refine at_rows C (hr'.mono up) fun s C => ?_
      refine nm_l C (by walk_at "lk") ?_ rfl rfl (by decide)
      refine it_list C (up _ hl) (by lia) (by lia) (x := .ref tt) (by simpa using hv1) ?_ (by with_unfolding_all rfl)
      with_reducible refine k_int C fun t s C => ?_
      refine it_tup C (up _ hv2) (by decide) (by decide) rfl rfl ?_ (by with_unfolding_all rfl)
      walk_at "op"
      refine spliced_more ?_
      refine opv fun _ _ => ?_
      refine Subscript_ ?_
      refine opv fun _ _ => ?_
      refine Subscript_ ?_
      refine Attribute_any_ ?_
      refine nm_l C (by walk_at "lk") ?_ rfl rfl (by decide)
      refine at_rows C (hr'.mono up) fun s C => ?_
      refine wpAny_BinOp ?_
      refine nm_l C (by walk_at "lk") ?_ rfl rfl (by decide)
      with_reducible refine k_int C fun t s C => ?_
      with_reducible refine a_sub C fun t s C => ?_
      refine it_list C (up _ hl) (by lia) (by lia) (x := .ref tt') (by rw [show ((hi : Int) - 1).toNat = hi - 1 by lia]; exact hv3) ?_ (by with_unfolding_all rfl)
      walk_at "op"
      with_reducible refine k_int C fun t s C => ?_
      refine it_tup C (up _ hv4) (by decide) (by decide) rfl rfl ?_ (by with_unfolding_all rfl)
      walk_at "op"
      refine spliced_none ?_
      refine mk_tup C (Nat.le_of_ble_eq_true rfl) fun D s C => ?_
      walk_at "op"
      refine unpack_tup C (.head _) rfl fun s C => ?_
      replace C := C.drop
      refine assignInOrder_cons ?_
      refine bd_l C (fun s C => ?_) rfl rfl
      refine assignInOrder_cons ?_
      refine bd_l C (fun s C => ?_) rfl rfl
      refine assignInOrder_nil ?_
      obtain ⟨G1, G2⟩ := P2 (by lia)
      generalize (rows[lo]'(by omega)).1 = first at C G1 G2 ⊢
      generalize (rows[hi - 1]'(by omega)).2 = last at C G1 G2 ⊢
      walk_at "xc"
      refine if_join (J4c w c A (n + 1) ((l, lstO items k) :: led) r lf lo hi (b + y) last (if first < b then [(first, b)] else [])) ?_ ?_
      · intro Qj kJ
        refine wpAny_isTrue_Compare1 ?_
        refine nm_l C (by walk_at "lk") ?_ rfl rfl (by decide)
        refine nm_l C (by walk_at "lk") ?_ rfl rfl (by decide)
        refine lt_int ?_
        refine wpAny_truthy_bool ?_
        refine ite_dec (fun g1 => ?_) (fun g1 => ?_)
        · walk_at "xc"
          refine wpAny_Expr_any ?_
          refine opv fun _ _ => ?_
          refine MethodCall_ ?_
          refine nm_l C (by walk_at "lk") ?_ rfl rfl (by decide)
          refine mt_append C (.head _) ?_
          refine callWith_method1 ?_
          refine spliced_more ?_
          refine Tuple_ ?_
          refine spliced_more ?_
          refine nm_l C (by walk_at "lk") ?_ rfl rfl (by decide)
          refine spliced_more ?_
          refine nm_l C (by walk_at "lk") ?_ rfl rfl (by decide)
          refine spliced_none ?_
          refine mk_tup C (Nat.le_of_ble_eq_true rfl) fun D s C => ?_
          refine spliced_none ?_
          skip
          walk_at "op"
          refine b_append C.swap (by simp) fun s C => ?_
          walk_at "xn"
          refine kJ _ ⟨_, _, [_], _, _, _, _, _, C, by walk_at "lk", by walk_at "lk", by walk_at "lk", by walk_at "lk", by walk_at "lk", by walk_at "lk", ?_, by simp⟩
          rw [if_pos g1]
          exact RowsV.one ⟨_, _, _, _, rfl, .head _⟩
        · walk_at "xn"
          refine kJ _ ⟨_, _, [], _, _, _, _, _, C, by walk_at "lk", by walk_at "lk", by walk_at "lk", by walk_at "lk", by walk_at "lk", by walk_at "lk", ?_, by simp⟩
          rw [if_neg g1]; trivial
      rintro s ⟨m, its, tl, j, t3, t4, t5, t6, C, m1, m2, m3, m4, m5, m6, W1, W2⟩
      walk_at "xc"
      refine if_join (J4d w c A (n + 1) ((l, lstO items k) :: led) r lf lo hi (leftOf first b (b + y) last)) ?_ ?_
      · intro Qj kJ
        refine wpAny_isTrue_Compare1 ?_
        refine nm_l C (by walk_at "lk") ?_ rfl rfl (by decide)
        refine nm_l C (by walk_at "lk") ?_ rfl rfl (by decide)
        refine lt_int ?_
        refine wpAny_truthy_bool ?_
        refine ite_dec (fun g1 => ?_) (fun g1 => ?_)
        · walk_at "xc"
          refine wpAny_Expr_any ?_
          refine opv fun _ _ => ?_
          refine MethodCall_ ?_
          refine nm_l C (by walk_at "lk") ?_ rfl rfl (by decide)
          refine mt_append C (.head _) ?_
          refine callWith_method1 ?_
          refine spliced_more ?_
          refine Tuple_ ?_
          refine spliced_more ?_
          refine nm_l C (by walk_at "lk") ?_ rfl rfl (by decide)
          refine spliced_more ?_
          refine nm_l C (by walk_at "lk") ?_ rfl rfl (by decide)
          refine spliced_none ?_
          refine mk_tup C (Nat.le_of_ble_eq_true rfl) fun D s C => ?_
          refine spliced_none ?_
          skip
          walk_at "op"
          refine b_append C.swap (by lia) fun s C => ?_
          walk_at "xn"
          refine kJ _ ⟨_, _, _ :: tl, _, _, _, C, by walk_at "lk", by walk_at "lk", by walk_at "lk", by walk_at "lk", ?_, by simp; lia⟩
          unfold leftOf
          rw [if_pos g1]
          exact (W1.mono fun p hp => .tail _ hp).append (RowsV.one ⟨_, _, _, _, rfl, .head _⟩)
        · walk_at "xn"
          refine kJ _ ⟨_, _, tl, _, _, _, C, by walk_at "lk", by walk_at "lk", by walk_at "lk", by walk_at "lk", ?_, by lia⟩
          unfold leftOf
          rw [if_neg g1, List.append_nil]; exact W1
      rintro s ⟨m, its, tl, j, t3, t4, C, m1, m2, m3, m4, W1, W2⟩
      walk_at "xn"
      exact kJ _ ⟨_, _, _, _, _, _, _, C, m1, m2, m3, m4, W1, W2, ⟨G1, G2⟩⟩
    · walk_at "xn"
      have e : lo = hi := by lia
      have e2 : rows.take lo ++ [] ++ rows.drop hi = rows := by rw [e]; simp
      refine kJ _ ⟨_, [], [], [], _, _, _, C, by walk_at "lk", by walk_at "lk", by walk_at "lk", by walk_at "lk", trivial, by simp, ⟨by rw [e2]; exact hg, fun x => ?_⟩⟩
      rw [e2]
      exact ⟨fun q => ⟨q, P3 e x q⟩, fun q => q.1⟩
  rintro s ⟨m, its, new, tl, j, t'', t''', C, m1, m2, m3, m4, W1, W2, ⟨G1, G2⟩⟩
  walk_at "xc"
  refine wpAny_Assign_Subscript ?_
  refine nm_l C (by walk_at "lk") ?_ rfl rfl (by decide)
  refine Attribute_any_ ?_
  refine nm_l C (by walk_at "lk") ?_ rfl rfl (by decide)
  refine at_rows C (hr'.mono fun p hp => .tail _ (List.mem_append_right _ hp)) fun s C => ?_
  refine x_slice ?_
  refine evalPart_some_step ?_
  refine nm_l C (by walk_at "lk") ?_ rfl rfl (by decide)
  refine evalPart_some_step ?_
  refine Call_ ?_
  refine nm_b C (by k_is) (by boot_fast) ?_ (by decide) rfl rfl (by decide)
  refine PyProof.Rows.callWith_builtin1 ?_
  refine spliced_more ?_
  refine nm_l C (by walk_at "lk") ?_ rfl rfl (by decide)
  refine spliced_more ?_
  refine nm_l C (by walk_at "lk") ?_ rfl rfl (by decide)
  refine spliced_none ?_
  refine b_max C fun t s C => ?_
  rw [show max (lo : Int) (hi : Int) = (hi : Int) by lia]
  refine evalPart_none_step ?_
  refine slc C fun D3 s C hS => ?_
  replace C := Cx.pull (a := (lf, lstO its j) :: tl) C
  refine set_slice C hS (.head _) P1 (by lia) (by lia) fun k' s C => ?_
  walk_at "xn"
  try walk_at "rt"
  refine kQ _ _ _ _ C (fun C => K _ _ _ ((lf, lstO its j) :: tl) _ G1 G2 ?_ C)
  exact (((hv.mono fun p hp => List.mem_append_right _ hp).take lo).append (W1.mono fun p hp => List.mem_append_left _ (.tail _ hp))).append ((hv.mono fun p hp => List.mem_append_right _ hp).drop hi)
end
end Mine
end

section
open PySem PySem.W PySem.Calls PyProof.Rows PyProof.Rows.LCg
namespace Mine
noncomputable def IsLi (o : Obj) (l : Addr) (i : Nat) : Prop := o.cls = .type "list_iterator" ∧ o.data = .fields #[.ref l, .int i 0]
section
variable {prog : Program} {w : World} {c : Cfg} {A : Around} {n : Nat} {m : Loc} {led : Led} {s : Shared} {E : Value → Shared → Prop}
theorem Cx.li {I l : Addr} {o : Obj} {i : Nat} (C : Cx w c A n m ((I, o) :: led) s) (h : IsLi o l i) : s.heap.IsListIter I l i := ⟨o, C.get (.head _), h.1, h.2⟩
theorem Cx.forget {a : Addr} {o : Obj} {s' : Shared} (C : Cx w c A n m ((a, o) :: led) s) (he : Heap.ExtBut a s.heap s'.heap) (hg : s'.gens = s.gens := by rfl) (hos : s'.os = s.os := by rfl) : Cx w c A n m led s' := by
  have z := C.N (a, o) (.head _)
  refine C.step ?_ (fun p hp => ?_) (List.nodup_cons.mp C.nd).2 hg hos
  · exact ⟨C.F.ns.at' fun o' e => he _ _ (Ne.symm z.2.1) e, fun b ob e => he b ob (fun q => by rw [q, z.2.2] at e; cases e) (C.F.keep b ob e), C.F.above⟩
  · exact ⟨he _ _ (C.ne p hp) (C.N p (.tail _ hp)).1, (C.N p (.tail _ hp)).2⟩
theorem iter_list {l : Addr} {items : List Value} {k : Nat} {Q : Value → Shared → Prop} (C : Cx w c A n m led s) (hm : (l, lstO items k) ∈ led) (h : ∀ I o s, IsLi o l 0 → Cx w c A n m ((I, o) :: led) s → Q (.ref I) s) : wpAny (model prog w) A (pyIter (.ref l)) Q E s :=
  wpAny_pyIter_list (C.lst hm) (h _ _ _ ⟨rfl, rfl⟩ (C.new (s' := { s with heap := s.heap.push _ }) (fun _ _ e => Heap.get?_push_of_some _ e) (Heap.get?_push_size _ rfl) rfl))
theorem next_item {I l : Addr} {o : Obj} {items : List Value} {k i : Nat} {x : Value} {Q : Option Value → Shared → Prop} (C : Cx w c A n m ((I, o) :: led) s) (hI : IsLi o l i) (hm : (l, lstO items k) ∈ led) (hx : items[i]? = some x)
    (h : ∀ o s, IsLi o l (i + 1) → Cx w c A n m ((I, o) :: led) s → Q (some x) s) : wpAny (model prog w) A (pyNext (.ref I)) Q E s :=
  wpAny_pyNext_list_item (C.li hI) (C.lst (.tail _ hm)) (by simpa using hx) fun h' hit hs => by
    obtain ⟨o', ho', h1, h2⟩ := hit
    exact h o' _ ⟨h1, h2⟩ (C.set hs ho')
theorem next_end {I l : Addr} {o : Obj} {items : List Value} {k i : Nat} {Q : Option Value → Shared → Prop} (C : Cx w c A n m ((I, o) :: led) s) (hI : IsLi o l i) (hm : (l, lstO items k) ∈ led) (hx : items[i]? = none)
    (h : ∀ s, Cx w c A n m led s → Q none s) : wpAny (model prog w) A (pyNext (.ref I)) Q E s :=
  wpAny_pyNext_list_end C.hh (C.li hI) (C.lst (.tail _ hm)) (by simpa using hx) fun h' he => h _ (C.forget he)
theorem iter_self {I l : Addr} {o : Obj} {i : Nat} {Q : Value → Shared → Prop} (C : Cx w c A n m ((I, o) :: led) s) (hI : IsLi o l i) (h : Q (.ref I) s) : wpAny (model prog w) A (pyIter (.ref I)) Q E s := wpAny_pyIter_listiter (C.li hI) h
noncomputable def Lets (prog : Program) (w : World) (A : Around) (target : PySem.Expr) (l : Addr) (v : Value) : Prop := ∀ (I : Addr) (i : Nat) (s : Shared) (Q : Unit → Shared → Prop) (E : Value → Shared → Prop), s.heap.IsListIter I l i → Q () s → wpAny (model prog w) A (letOwnedTupleGo target (.ref I) v) Q E s
theorem lets_name {x : Str} {p : Pos} {l : Addr} {v : Value} : Lets prog w A (.Name x p) l v := fun _ _ _ _ _ _ h => wpAny_pure h
theorem lets_tuple {elts : List PySem.Expr} {k : Nat} {p : Pos} {l t : Addr} : Lets prog w A (.Tuple elts k p) l (.ref t) := fun _ _ _ _ _ hi h => wpAny_letOwnedTupleGo_listiter hi h
inductive ForI (w : World) (c : Cfg) (A : Around) (n : Nat) (I : Addr) (N : Nat) (It : Obj → Nat → Prop) (J : Nat → Loc → Led → Prop) (d : Nat) (s : Shared) : Prop
  | mk (i : Nat) (m : Loc) (led : Led) (o : Obj) (e : d = N - i) (hi : i ≤ N) (hI : It o i) (C : Cx w c A n m ((I, o) :: led) s) (hj : J i m led) : ForI w c A n I N It J d s
theorem for_list {target : PySem.Expr} {I l : Addr} {o : Obj} {items : List Value} {k : Nat} {body orelse : List Stmt} {env : Env} {R : Result → Shared → Prop} (C : Cx w c A n m ((I, o) :: led) s) (hI : IsLi o l 0)
    (J : Nat → Loc → Led → Prop) (hJ : ∀ i m led, J i m led → (l, lstO items k) ∈ led) (h0 : J 0 m led) (ht : ∀ v ∈ items, Lets prog w A target l v)
    (turn : ∀ i m led s v E' o, items[i]? = some v → J i m led → IsLi o l (i + 1) → Cx w c A n m ((I, o) :: led) s →
      ∀ T : Flow → Shared → Prop, (∀ s m' led', Cx w c A n m' ((I, o) :: led') s → J (i + 1) m' led' → T .next s) → (∀ v s, R (.ok (.ret v)) s → T (.ret v) s) →
      wpAny (model prog w) A (assign target env v) (fun _ s => wpAny (model prog w) A (execs body env) T E' s) E' s)
    (done : ∀ m led s E', J items.length m led → Cx w c A n m led s → wpAny (model prog w) A (execs orelse env) (fun f s => R (.ok f) s) E' s) :
    codeAny (model prog w) A (.forLoop target (.ref I) body orelse env) R s := by
  refine codeAny_loop' rfl (ForI w c A n I items.length (fun o i => IsLi o l i) J) (fun d s IH => ?_) items.length ⟨0, m, led, o, rfl, Nat.zero_le _, hI, C, h0⟩
  obtain ⟨i, m, led, o, rfl, hi, hI, C, hj⟩ := IH
  show wpAny _ _ ((forTurn target (.ref I) body orelse env).onRaise (fun x => do noteFrame x env; theTreesLotGoes x)) _ _ s
  refine wpAny_noted ?_
  simp only [forTurn]
  refine wpAny_bind (wpAny_standAt (wpAny_bind (wpAny_onRaise ?_)))
  by_cases hlt : i < items.length
  · refine next_item C hI (hJ _ _ _ hj) (List.getElem?_eq_getElem hlt) fun o' s hI' C' => ?_
    refine wpAny_bind (ht _ (List.getElem_mem hlt) I (i + 1) _ _ _ (C'.li hI') ?_)
    refine wpAny_bind (wpAny_mono (turn i m led s items[i] _ o' (List.getElem?_eq_getElem hlt) hj hI' C' (fun f s => match f with
        | .next | .cont => ∃ d', d' < items.length - i ∧ ForI w c A n I items.length (fun o i => IsLi o l i) J d' s
        | .brk => R (.ok .next) s
        | .ret v => R (.ok (.ret v)) s) (fun _ m' led' C j => ⟨items.length - (i + 1), by omega, i + 1, m', led', o', rfl, hlt, hI', C, j⟩) fun _ _ q => q) (fun _ s₂ h₂ => wpAny_bind (wpAny_mono h₂ (fun f s₃ h₃ => ?_) fun _ _ h' => h')) fun _ _ h' => h')
    cases f with
    | next => exact wpAny_pure (.inl ⟨rfl, h₃⟩)
    | cont => exact wpAny_pure (.inl ⟨rfl, h₃⟩)
    | brk => exact wpAny_pure h₃
    | ret v => exact wpAny_pure h₃
  · have e : i = items.length := by lia
    subst e
    refine next_end C hI (hJ _ _ _ hj) (List.getElem?_eq_none (Nat.le_refl _)) fun s C' => ?_
    exact wpAny_pure (.inr ⟨rfl, codeAny_block (done m led s _ hj C')⟩)
theorem st_v {env : Env} {a : Addr} {o : Obj} {m2 : Loc} {x : Str} {v : Value} {Q : Unit → Shared → Prop} (C : Cx w c A n m ((a, o) :: led) s) (hn : NsObj o m2) (ha : env.locals = a) (hl : env.kindOf x = some .local) (hp : env.scope.kind = .function)
    (h : ∀ o s, NsObj o (upd m2 x v) → Cx w c A n m ((a, o) :: led) s → Q () s) : wpAny (model prog w) A (storeName env x v) Q E s := by
  subst ha
  refine wpAny_storeName_local hl (hn.ns (C.get (.head _))) (fun h' hn' hs => ?_) (by rw [hp]; rfl)
  obtain ⟨o', ho', hno⟩ := ns_obj hn'
  exact h o' _ hno (C.set hs ho')
theorem as_pair {env : Env} {a t : Addr} {o : Obj} {m2 : Loc} {x y : Str} {px py tp : Pos} {kk j : Nat} {u v : Value} {Q : Unit → Shared → Prop} (C : Cx w c A n m ((a, o) :: led) s) (hn : NsObj o m2) (hm : (t, tupO [u, v] j) ∈ led) (ha : env.locals = a)
    (hx : env.kindOf x = some .local) (hy : env.kindOf y = some .local) (hp : env.scope.kind = .function)
    (h : ∀ o s, NsObj o (upd (upd m2 x u) y v) → Cx w c A n m ((a, o) :: led) s → Q () s) : wpAny (model prog w) A (assign (.Tuple [.Name x px, .Name y py] kk tp) env (.ref t)) Q E s := by
  refine assign_Tuple_tuple C.hh ⟨_, C.get (.tail _ hm), rfl, j, rfl⟩ rfl rfl fun h' he => ?_
  have C' := C.ext (s' := { s with heap := h' }) he (Nat.le_refl _)
  refine assignInOrder_cons (wpAny_assign_Name (st_v C' hn ha hx hp fun o s hn C => ?_))
  refine assignInOrder_cons (wpAny_assign_Name (st_v C hn ha hy hp fun o s hn C => ?_))
  exact assignInOrder_nil (h o s hn C)
theorem as_pairF {nm : Str} {sc : Scope} {a t : Addr} {cd : Value} {x y : Str} {px py tp : Pos} {kk j : Nat} {u v : Value} {Q : Unit → Shared → Prop} (C : Cx w c A n m led s) (hm : (t, tupO [u, v] j) ∈ led)
    (hp : sc.kind = .function) (hx : (envOf nm sc c.L a cd).kindOf x = some .local) (hy : (envOf nm sc c.L a cd).kindOf y = some .local)
    (h : ∀ s, Cx w c A n (upd (upd m x u) y v) led s → Q () s) : wpAny (model prog w) A (assign (.Tuple [.Name x px, .Name y py] kk tp) (envOf nm sc c.L a cd) (.ref t)) Q E s := by
  refine assign_Tuple_tuple C.hh ⟨_, C.get hm, rfl, j, rfl⟩ rfl rfl fun h' he => ?_
  have C' := C.ext (s' := { s with heap := h' }) he (Nat.le_refl _)
  refine assignInOrder_cons (wpAny_assign_Name (st_l C' (fun s C => ?_) hp hx))
  refine assignInOrder_cons (wpAny_assign_Name (st_l C (fun s C => ?_) hp hy))
  exact assignInOrder_nil (h s C)
theorem nm_v {env : Env} {a : Addr} {o : Obj} {m2 : Loc} {x : Str} {pos : Pos} {v : Value} {Q : Value → Shared → Prop} (C : Cx w c A n m led s) (hm : (a, o) ∈ led) (hn : NsObj o m2) (hv : m2 x = some v) (ha : env.locals = a) (hl : env.kindOf x = some .local) (hp : env.scope.kind = .function) (hd : (x == ("__debug__" : Str)) = false)
    (k : Q v s) : wpAny (model prog w) A (eval (.Name x pos) env) Q E s := by
  subst ha
  exact wpAny_Name (wpAny_loadName_local hp hl (hn.ns (C.get hm)) hv k) hd
noncomputable def cellO (o : Obj) (v : Value) : Prop := o.data = .cell (some v)
theorem nm_k {env : Env} {a : Addr} {o : Obj} {x : Str} {pos : Pos} {v : Value} {Q : Value → Shared → Prop} (C : Cx w c A n m led s) (hm : (a, o) ∈ led) (hv : cellO o v) (hc : env.cells.lookup x = some a) (hl : env.kindOf x = some .cell) (hp : env.scope.kind = .function) (hd : (x == ("__debug__" : Str)) = false)
    (k : Q v s) : wpAny (model prog w) A (eval (.Name x pos) env) Q E s := wpAny_Name (wpAny_loadName_cell hp hl hc ⟨o, C.get hm, hv⟩ k) hd
theorem nm_bv {env : Env} {x : Str} {pos : Pos} {v : Value} {Q : Value → Shared → Prop} (C : Cx w c A n m led s) (e : nsIn (KH w.params) mainGlobals x = some none) (hv : bootBuiltins x = some v) (k : Q v s) (hn : x ≠ "__name__") (hg : env.globals = mainGlobals) (hb : env.builtins = builtinsNs)
    (hp : env.scope.kind = .function) (hl : env.kindOf x = some .globalImplicit) (hd : (x == ("__debug__" : Str)) = false) :
    wpAny (model prog w) A (eval (.Name x pos) env) Q E s :=
  Name_function_global hp hl (loadGlobal_builtin (env := env) (by rw [hg]; exact C.T.g.keeps C.F.keep) (mg_none_of C.X C.T.g e) (by rw [hb]; exact C.T.b.keeps C.F.keep) ((C.TR.builtins x hn).trans hv) k) hd
end
end Mine
end

section
open PySem PySem.W PySem.Calls PyProof.Rows PyProof.Rows.LCg
namespace Mine
section
variable {prog : Program} {w : World} {c : Cfg} {A : Around} {n : Nat} {m : Loc} {led : Led} {s : Shared} {E : Value → Shared → Prop}
noncomputable def Test (prog : Program) (w : World) (A : Around) (env : Env) (E : Value → Shared → Prop) (yes no : Shared → Prop) : Option PySem.Expr → Shared → Prop
  | none, s => yes s
  | some t, s => wpAny (model prog w) A (isTrue t env (eval t env)) (fun b s => if b = true then yes s else no s) E s
inductive CmpN (w : World) (c : Cfg) (A : Around) (n : Nat) (m : Loc) (a D I : Addr) (o : Obj) (j : Nat) (ys : List Value) (J : Led → Prop) (s : Shared) : Prop
  | mk (oC : Obj) (m2 : Loc) (led : Led) (hn : NsObj oC m2) (C : Cx w c A n m ((a, oC) :: (D, lstO ys j) :: (I, o) :: led) s) (hj : J led) : CmpN w c A n m a D I o j ys J s
noncomputable def CmpT (prog : Program) (w : World) (c : Cfg) (A : Around) (n : Nat) (m : Loc) (target elt : PySem.Expr) (cnd : Option PySem.Expr) (env : Env) (a D I : Addr) (o : Obj) (j : Nat) (ys : List Value) (J : List Value → Led → Prop) (v : Value) (E : Value → Shared → Prop) (s : Shared) : Prop :=
  wpAny (model prog w) A (assign target env v) (fun _ s => Test prog w A env E (fun s => wpAny (model prog w) A (eval elt env) (fun y s => CmpN w c A n m a D I o j ys (J (ys ++ [y])) s) E s) (CmpN w c A n m a D I o j ys (J ys)) cnd s) E s
inductive CmpI (w : World) (c : Cfg) (A : Around) (n : Nat) (m : Loc) (a D I l : Addr) (items : List Value) (J : Nat → List Value → Led → Prop) (d : Nat) (s : Shared) : Prop
  | mk (i : Nat) (ys : List Value) (led : Led) (oC : Obj) (m2 : Loc) (o : Obj) (j : Nat) (e : d = items.length - i) (hi : i ≤ items.length) (hI : IsLi o l i) (hn : NsObj oC m2) (C : Cx w c A n m ((a, oC) :: (D, lstO ys j) :: (I, o) :: led) s) (hj : J i ys led) : CmpI w c A n m a D I l items J d s
theorem comp_turn {elt target iter : PySem.Expr} {cnd : Option PySem.Expr} {scope : Scope} {pos : Pos} {a D I l : Addr} {oC o : Obj} {items : List Value} {k j i : Nat} {ys : List Value} {env : Env} {Q : PySem.Fin → Shared → Prop}
    (C : Cx w c A n m ((a, oC) :: (D, lstO ys j) :: (I, o) :: led) s) (hI : IsLi o l i) (hi : i ≤ items.length) (hml : (l, lstO items k) ∈ led) (hys : ys.length ≤ 100000) {J : Nat → List Value → Led → Prop} (hj : J i ys led) (ht : ∀ v ∈ items, Lets prog w A target l v)
    (turn : ∀ s v E' o, items[i]? = some v → Cx w c A n m ((a, oC) :: (D, lstO ys j) :: (I, o) :: led) s → CmpT prog w c A n m target elt cnd env a D I o j ys (J (i + 1)) v E' s)
    (more : ∀ s, i < items.length → CmpI w c A n m a D I l items J (items.length - (i + 1)) s → Q (.again (.compLoop (.ListComp elt [⟨target, iter, cnd.toList, 0⟩] scope pos) 0 (.ref I) (.ref D) env)) s)
    (done : ∀ s, i = items.length → Cx w c A n m ((a, oC) :: (D, lstO ys j) :: led) s → Q (.done .next) s) :
    wpAny (model prog w) A (compTurn (.ListComp elt [⟨target, iter, cnd.toList, 0⟩] scope pos) 0 (.ref I) (.ref D) env) Q E s := by
  unfold compTurn
  dsimp only [List.getElem?_cons_zero]
  refine wpAny_bind (wpAny_standAt ?_)
  rw [if_neg (by decide)]
  have C1 : Cx w c A n m ((I, o) :: (a, oC) :: (D, lstO ys j) :: led) s := C.perm (List.perm_middle (l₁ := [_, _]))
  have hml : (l, lstO items k) ∈ (a, oC) :: (D, lstO ys j) :: led := .tail _ (.tail _ hml)
  by_cases hlt : i < items.length
  · refine wpAny_bind (next_item C1 hI hml (List.getElem?_eq_getElem hlt) fun o' s hI' C' => ?_)
    refine wpAny_bind (ht _ (List.getElem_mem hlt) I (i + 1) _ _ _ (C'.li hI') ?_)
    refine wpAny_bind (wpAny_mono (turn s items[i] _ o' (List.getElem?_eq_getElem hlt) (C'.perm (List.perm_middle (l₁ := [_, _])).symm)) (fun _ s h => ?_) fun _ _ e => e)
    have yes : ∀ s, wpAny (model prog w) A (eval elt env) (fun y s => CmpN w c A n m a D I o' j ys (J (i + 1) (ys ++ [y])) s) E s →
        wpAny (model prog w) A (do (do let _ ← call (.builtin "list.append") [.ref D, ← eval elt env] : Sem Unit); again (.compLoop (.ListComp elt [⟨target, iter, cnd.toList, 0⟩] scope pos) 0 (.ref I) (.ref D) env)) Q E s := fun s h => by
      refine wpAny_bind (wpAny_bind (wpAny_mono h (fun y s h => ?_) fun _ _ e => e))
      obtain ⟨oC, m2, led', hn, C3, hj'⟩ := h
      refine wpAny_bind (b_append (C3.perm (List.perm_middle (l₁ := [_]))) hys fun s C4 => ?_)
      exact wpAny_pure (wpAny_pure (more _ hlt ⟨i + 1, ys ++ [y], led', oC, m2, o', j + 1, rfl, hlt, hI', hn, C4.perm (List.perm_middle (l₁ := [_])).symm, hj'⟩))
    cases cnd with
    | none =>
      simp only [Option.toList_none, List.forIn_nil]
      refine wpAny_bind (wpAny_pure ?_)
      simp only [if_true]
      exact yes s h
    | some t =>
      simp only [Option.toList_some, List.forIn_cons, List.forIn_nil]
      refine wpAny_bind (wpAny_bind ?_)
      simp only [if_true]
      refine wpAny_bind (wpAny_mono h (fun b s hb => ?_) fun _ _ e => e)
      refine wpAny_pure (wpAny_pure ?_)
      cases b with
      | true =>
        simp only [if_true] at hb ⊢
        exact yes s hb
      | false =>
        simp only [Bool.false_eq_true, if_false] at hb ⊢
        obtain ⟨oC, m2, led', hn, C3, hj'⟩ := hb
        exact wpAny_pure (more _ hlt ⟨i + 1, ys, led', oC, m2, o', j, rfl, hlt, hI', hn, C3, hj'⟩)
  · have e : i = items.length := Nat.le_antisymm hi (Nat.le_of_not_lt hlt)
    subst e
    refine wpAny_bind (next_end C1 hI hml (List.getElem?_eq_none (Nat.le_refl _)) fun s C' => ?_)
    exact wpAny_pure (done s rfl C')
theorem comp_loop {elt target iter : PySem.Expr} {cnd : Option PySem.Expr} {scope : Scope} {pos : Pos} {a D I l : Addr} {oC o : Obj} {m2 : Loc} {items : List Value} {k j : Nat} {env : Env} {R : Result → Shared → Prop}
    (C : Cx w c A n m ((a, oC) :: (D, lstO [] j) :: (I, o) :: led) s) (hn : NsObj oC m2) (hI : IsLi o l 0) (hz : items.length ≤ 1000)
    (J : Nat → List Value → Led → Prop) (hJ : ∀ i ys led, J i ys led → (l, lstO items k) ∈ led ∧ ys.length ≤ i) (h0 : J 0 [] led) (ht : ∀ v ∈ items, Lets prog w A target l v)
    (turn : ∀ i ys led s v E' oC m2 o j, items[i]? = some v → J i ys led → NsObj oC m2 → Cx w c A n m ((a, oC) :: (D, lstO ys j) :: (I, o) :: led) s → CmpT prog w c A n m target elt cnd env a D I o j ys (J (i + 1)) v E' s)
    (done : ∀ ys led s j oC m2, J items.length ys led → NsObj oC m2 → Cx w c A n m ((a, oC) :: (D, lstO ys j) :: led) s → R (.ok .next) s) :
    codeAny (model prog w) A (.compLoop (.ListComp elt [⟨target, iter, cnd.toList, 0⟩] scope pos) 0 (.ref I) (.ref D) env) R s := by
  refine codeAny_loop rfl (CmpI w c A n m a D I l items J) (fun d s IH => ?_) items.length ⟨0, [], led, oC, m2, o, j, rfl, Nat.zero_le _, hI, hn, C, h0⟩
  obtain ⟨i, ys, led, oC, m2, o, j, rfl, hi, hI, hn, C, hj⟩ := IH
  show wpAny _ A ((compTurn (.ListComp elt [⟨target, iter, cnd.toList, 0⟩] scope pos) 0 (.ref I) (.ref D) env).onRaise (fun x => do noteFrame x env; theTreesLotGoes x)) _ _ s
  refine wpAny_noted ?_
  exact comp_turn C hI hi (hJ _ _ _ hj).1 (by have := (hJ _ _ _ hj).2; lia) hj ht (fun s v E' o hv C => turn i ys led s v E' oC m2 o j hv hj hn C) (fun s hlt h => ⟨rfl, _, by omega, h⟩) fun s e C => done ys led s j oC m2 (e ▸ hj) hn C
theorem comp_block {elt target iter : PySem.Expr} {cnd : Option PySem.Expr} {scope : Scope} {cl : List (Str × Addr)} {pos : Pos} {I l : Addr} {o : Obj} {items : List Value} {k : Nat} {env : Env} {RR : Value → Addr → Result → Shared → Prop}
    (C : Cx w c A n m ((I, o) :: led) s) (hI : IsLi o l 0) (hz : items.length ≤ 1000) (hcell : ∀ y ∈ scope.names, y.2 ≠ .cell) (hkind : scope.kind = .function)
    (J : Nat → List Value → Led → Prop) (hJ : ∀ i ys led, J i ys led → (l, lstO items k) ∈ led ∧ ys.length ≤ i) (h0 : J 0 [] led) (ht : ∀ v ∈ items, Lets prog w A target l v)
    (turn : ∀ i ys led s v E' a D oC m2 o j, items[i]? = some v → J i ys led → NsObj oC m2 → Cx w c A n m ((a, oC) :: (D, lstO ys j) :: (I, o) :: led) s → CmpT prog w c A n m target elt cnd (compEnvC scope cl a env) a D I o j ys (J (i + 1)) v E' s)
    (done : ∀ ys led s D j a oC m2, J items.length ys led → NsObj oC m2 → Cx w c A n m ((a, oC) :: (D, lstO ys j) :: led) s → RR (.ref D) a (.ok .next) s) :
    wpAny (model prog w) A (newList []) (fun acc s₃ => wpAny (model prog w) A (newFunctionEnv scope env.globals cl [] env.qual none .none (some env)) (fun cenv s₄ =>
      codeAny (model prog w) A (.compStart (.ListComp elt [⟨target, iter, cnd.toList, 0⟩] scope pos) 0 (.ref I) acc { cenv with scope := relabel scope env }) (RR acc cenv.locals) s₄) E s₃) E s := by
  refine mk_list C (Nat.zero_le _) fun D s C => ?_
  refine wpAny_newFunctionEnv hcell (by intro y hy; simp at hy) (fun h' hns hsb => ?_) hkind
  obtain ⟨oC, hoC, hnC⟩ := ns_obj hns
  have C' : Cx w c A n m ((s.heap.objs.size, oC) :: (D, lstO [] 0) :: (I, o) :: led) { s with heap := h', toks := s.toks + ([] : List (Str × Value)).length } :=
    C.new (fun b o e => hsb.extBut b o (Nat.ne_of_lt (Heap.lt_size e)) (Heap.get?_push_of_some _ e)) hoC rfl
  have loop : codeAny (model prog w) A (.compLoop (.ListComp elt [⟨target, iter, cnd.toList, 0⟩] scope pos) 0 (.ref I) (.ref D) (compEnvC scope cl s.heap.objs.size env)) (RR (.ref D) s.heap.objs.size) { s with heap := h', toks := s.toks + ([] : List (Str × Value)).length } :=
    comp_loop C' hnC hI hz J hJ h0 ht (fun i ys led s v E' oC m2 o j hv hj hn C => turn i ys led s v E' _ D oC m2 o j hv hj hn C) fun ys led s j oC m2 hj hn C => done ys led s D j _ oC m2 hj hn C
  exact codeAny_compStart_list loop (iter_self (C'.perm (List.perm_middle (l₁ := [_, _]))) hI loop)
inductive CmpS (prog : Program) (w : World) (c : Cfg) (A : Around) (n : Nat) (target elt : PySem.Expr) (cnd : Option PySem.Expr) (scope : Scope) (cl : List (Str × Addr)) (env : Env) (Fin : Loc → List Value → Led → Prop) (xv : Value) (s : Shared) : Prop
  | mk (m : Loc) (led : Led) (l : Addr) (items : List Value) (k : Nat) (e : xv = .ref l) (C : Cx w c A n m led s) (hm : (l, lstO items k) ∈ led) (hz : items.length ≤ 1000) (J : Nat → List Value → Led → Prop)
      (hJ : ∀ i ys led, J i ys led → (l, lstO items k) ∈ led ∧ ys.length ≤ i) (h0 : J 0 [] led) (ht : ∀ v ∈ items, Lets prog w A target l v)
      (turn : ∀ i ys led s v E' a D oC m2 I o j, items[i]? = some v → J i ys led → NsObj oC m2 → Cx w c A n m ((a, oC) :: (D, lstO ys j) :: (I, o) :: led) s → CmpT prog w c A n m target elt cnd (compEnvC scope cl a env) a D I o j ys (J (i + 1)) v E' s)
      (done : ∀ ys led, J items.length ys led → Fin m ys led) : CmpS prog w c A n target elt cnd scope cl env Fin xv s
theorem comp_eval {elt target iter : PySem.Expr} {cnd : Option PySem.Expr} {scope : Scope} {cl : List (Str × Addr)} {pos : Pos} {env : Env} {Q : Value → Shared → Prop} (_C : Cx w c A n m led s)
    (hclos : closureFor scope env = pure cl) (hcell : ∀ y ∈ scope.names, y.2 ≠ .cell) (hkind : scope.kind = .function) (hnames : ∀ y ∈ scope.names, y.2 = .local → scope.names.lookup y.1 = some .local)
    (h : wpAny (model prog w) A (eval iter env) (CmpS prog w c A n target elt cnd scope cl env (fun m ys led => ∀ s D j, Cx w c A n m ((D, lstO ys j) :: led) s → Q (.ref D) s)) E s)
    (hs : ∀ x, foldedSetIterable iter env x = pure x := by intro _; rfl) :
    wpAny (model prog w) A (eval (.ListComp elt [⟨target, iter, cnd.toList, 0⟩] scope pos) env) Q E s := by
  rw [eval_ListComp]
  refine wpAny_comprehension_free (use := none) rfl hs hclos hkind hnames (wpAny_mono h (fun xv s₁ h₁ => ?_) fun _ _ e => e)
  obtain ⟨m, led, l, items, k, rfl, C, hm, hz, J, hJ, h0, ht, turn, done⟩ := h₁
  refine iter_list C hm fun I o s hI C => ?_
  exact comp_block C hI hz hcell hkind J hJ h0 ht (fun i ys led s v E' a D oC m2 o j => turn i ys led s v E' a D oC m2 I o j) fun ys led s D j a oC m2 hj hn C =>
    ⟨m2, hn.ns (C.get (.head _)), fun h' hs => done ys led hj _ D j (C.forget (s' := { s with heap := h' }) hs.extBut)⟩
theorem comp_assign {elt target iter : PySem.Expr} {cnd : Option PySem.Expr} {scope : Scope} {cl : List (Str × Addr)} {pos py spos : Pos} {y : Str} {env : Env} {Q : Flow → Shared → Prop} (_C : Cx w c A n m led s)
    (hsw : swapsWith (.ListComp elt [⟨target, iter, cnd.toList, 0⟩] scope pos) (some (.Name y py)) spos.line env = pure true) (he : env.locals = c.L) (hek : env.scope.kind = .function) (hy : env.kindOf y = some .local)
    (hclos : closureFor scope env = pure cl) (hcell : ∀ y ∈ scope.names, y.2 ≠ .cell) (hkind : scope.kind = .function) (hnames : ∀ y ∈ scope.names, y.2 = .local → scope.names.lookup y.1 = some .local)
    (h : wpAny (model prog w) A (eval iter env) (CmpS prog w c A n target elt cnd scope cl env (fun m ys led => ∀ s D j, Cx w c A n (upd m y (.ref D)) ((D, lstO ys j) :: led) s → Q .next s)) E s)
    (hs : ∀ x, foldedSetIterable iter env x = pure x := by intro _; rfl) :
    wpAny (model prog w) A (exec (.Assign [.Name y py] (.ListComp elt [⟨target, iter, cnd.toList, 0⟩] scope pos) spos) env) Q E s := by
  rw [exec_Assign_Name_used _ _ _ _ hsw]
  refine wpAny_bind (wpAny_standAt (wpAny_bind ?_))
  show wpAny _ A (do let _ ← comprehension (.ListComp elt [⟨target, iter, cnd.toList, 0⟩] scope pos) scope env _ (newList []) false (eval iter env) (some (assign (.Name y py) env))) _ _ s
  refine wpAny_bind (wpAny_mono (wpAny_comprehension_free (use := some (assign (.Name y py) env)) (Q := fun _ s' => Q .next s') rfl hs hclos hkind hnames
    (wpAny_mono h (fun xv s₁ h₁ => ?_) fun _ _ e => e)) (fun _ s' hq => wpAny_pure (wpAny_pure hq)) fun _ _ e => e)
  obtain ⟨m, led, l, items, k, rfl, C, hm, hz, J, hJ, h0, ht, turn, done⟩ := h₁
  refine iter_list C hm fun I o s hI C => ?_
  refine comp_block C hI hz hcell hkind J hJ h0 ht (fun i ys led s v E' a D oC m2 o j => turn i ys led s v E' a D oC m2 I o j) fun ys led s D j a oC m2 hj hn C => ?_
  show wpAny _ A (assign (.Name y py) env (.ref D)) _ _ _
  refine wpAny_assign_Name (wpAny_storeName_local hy (by rw [he]; exact C.F.ns) (fun h₂ hn₂ hs₂ => ?_) (by rw [hek]; rfl))
  rw [he] at hn₂ hs₂
  have C2 : Cx w c A n (upd m y (.ref D)) ((a, oC) :: (D, lstO ys j) :: led) { s with heap := h₂, toks := s.toks + 1 } := C.step (C.F.set hn₂ hs₂) (C.N.set hs₂) C.nd
  exact ⟨m2, hn.ns (C2.get (.head _)), fun h' hs => done ys led hj _ D j (C2.forget (s' := { s with heap := h', toks := s.toks + 1 }) hs.extBut)⟩
end
end Mine
end

section
open PySem PySem.W PySem.Calls PyProof.Rows PyProof.Rows.LCg
namespace Mine
section
variable {prog : Program} {w : World} {c : Cfg} {A : Around} {n : Nat} {m : Loc} {led : Led} {s : Shared} {E : Value → Shared → Prop}
theorem b_sum {l : Addr} {vs : List Value} {ns : List Int} {k : Nat} {Q : Value → Shared → Prop} (C : Cx w c A n m led s) (hm : (l, lstO vs k) ∈ led) (hi : IntsAre vs ns) (h : ∀ t s, Cx w c A n m led s → Q (.int ns.sum t) s) :
    wpAny (model prog w) A (call (.builtin "sum") [.ref l]) Q E s := sumK C.hh C.F C.N (C.lst hm) hi fun h' tk t F' N' => h _ _ (C.step F' N' C.nd)
theorem b_maxl {l : Addr} {vs : List Value} {ns : List Int} {k : Nat} {Q : Value → Shared → Prop} (C : Cx w c A n m led s) (hm : (l, lstO vs k) ∈ led) (hi : IntsAre vs ns) (hne : 0 < ns.length) (h : ∀ M t s, M ∈ ns → (∀ a ∈ ns, a ≤ M) → Cx w c A n m led s → Q (.int M t) s) :
    wpAny (model prog w) A (call (.builtin "max") [.ref l]) Q E s := kso_max C.F C.N (C.lst hm) hi hne C.hh fun h' M t tk F' N' h1 h2 => h M t _ h1 h2 (C.step F' N' C.nd)
theorem b_minl {l : Addr} {vs : List Value} {ns : List Int} {k : Nat} {Q : Value → Shared → Prop} (C : Cx w c A n m led s) (hm : (l, lstO vs k) ∈ led) (hi : IntsAre vs ns) (hne : 0 < ns.length) (h : ∀ M t s, M ∈ ns → (∀ a ∈ ns, M ≤ a) → Cx w c A n m led s → Q (.int M t) s) :
    wpAny (model prog w) A (call (.builtin "min") [.ref l]) Q E s := kso_min C.F C.N (C.lst hm) hi hne C.hh fun h' M t tk F' N' h1 h2 => h M t _ h1 h2 (C.step F' N' C.nd)
theorem b_sorted {l : Addr} {vs : List Value} {ns : List Int} {k : Nat} {Q : Value → Shared → Prop} (C : Cx w c A n m led s) (hm : (l, lstO vs k) ∈ led) (hi : IntsAre vs ns) (h64 : ns.length < 64)
    (h : ∀ D vs' ns' j s, IntsAre vs' ns' → ns'.Perm ns → ns'.Pairwise (· ≤ ·) → Cx w c A n m ((D, lstO vs' j) :: led) s → Q (.ref D) s) :
    wpAny (model prog w) A (call (.builtin "sorted") [.ref l]) Q E s := kso_sorted C.F C.N (C.lst hm) hi h64 fun D vs' ns' j h' F' N' l' h1 _ h2 h3 _ => h D vs' ns' j _ h1 h2 h3 (C.of_news F' N' l')
theorem a_list {l b : Addr} {vs ws : List Value} {k j : Nat} {Q : Value → Shared → Prop} (C : Cx w c A n m led s) (hm : (l, lstO vs k) ∈ led) (hb : (b, lstO ws j) ∈ led) (hz : vs.length + ws.length ≤ 100000)
    (h : ∀ D s, Cx w c A n m ((D, lstO (vs ++ ws) 0) :: led) s → Q (.ref D) s) : wpAny (model prog w) A (binaryOp .Add (.ref l) (.ref b)) Q E s :=
  add_lists C.F C.N (C.lst hm) (C.lst hb) (fun h' F' N' => h _ _ (C.of_news F' N' C.lt)) (by rw [sizeLine_eq]; lia)
theorem b_copy {l : Addr} {vs : List Value} {k : Nat} {Q : Value → Shared → Prop} (C : Cx w c A n m led s) (hm : (l, lstO vs k) ∈ led) (hz : vs.length ≤ 100000)
    (h : ∀ D j s, Cx w c A n m ((D, lstO vs j) :: led) s → Q (.ref D) s) : wpAny (model prog w) A (call (.type "list") [.ref l]) Q E s :=
  list_copyK C.F C.N (C.lst hm) (fun D j h' F' N' l' => h D j _ (C.of_news F' N' l')) (by rw [List.size_toArray, sizeLine_eq]; lia)
theorem IntsAre.snoc {vs : List Value} {ns : List Int} (h : IntsAre vs ns) (i : Int) (t : Tok) : IntsAre (vs ++ [.int i t]) (ns ++ [i]) := by
  induction h with
  | nil => exact .cons i t .nil
  | cons n t _ ih => exact .cons n t ih
theorem IntsAre.append {vs ws : List Value} {ns ks : List Int} (h : IntsAre vs ns) (g : IntsAre ws ks) : IntsAre (vs ++ ws) (ns ++ ks) := by
  induction h with
  | nil => exact g
  | cons n t _ ih => exact .cons n t ih
theorem it_from {value slice : PySem.Expr} {l sl : Addr} {items : List Value} {k i : Nat} {t : Tok} {Q : Value → Shared → Prop} (C : Cx w c A n m led s) (hm : (l, lstO items k) ∈ led) (hsl : s.heap.IsSliceOf sl (.int ((i : Nat) : Int) t) .none .none) (hi : i ≤ items.length) (hz : items.length ≤ 100000)
    (h : ∀ D s, Cx w c A n m ((D, lstO (items.drop i) 0) :: led) s → Q (.ref D) s) (hs : subscripted slice false (.ref l) (.ref sl) = operate [.ref sl, .ref l] (getItem (.ref l) (.ref sl))) :
    wpAny (model prog w) A (subscriptTail value slice (.ref l) (.ref sl)) Q E s := by
  refine tail_any (C.lst hm).typeIs slot_list_getitem.lookup (wpAny_getItem_list_slice (C.lst hm) hsl (.int _ _) .none .none (by simp) ?_ (by rw [List.size_toArray, sizeLine_eq]; lia)) hs
  rw [slicePick_from _ _ (by simpa using hi)]
  exact h _ _ (C.new (s' := { s with heap := s.heap.push _ }) (fun _ _ e => Heap.get?_push_of_some _ e) (Heap.get?_push_size _ rfl) rfl)
theorem it_upto {value slice : PySem.Expr} {l sl : Addr} {items : List Value} {k i : Nat} {t : Tok} {Q : Value → Shared → Prop} (C : Cx w c A n m led s) (hm : s.heap.IsList l items.toArray) (hsl : s.heap.IsSliceOf sl .none (.int ((i : Nat) : Int) t) .none) (hz : items.length ≤ 2000000)
    (h : ∀ D s, Cx w c A n m ((D, lstO (items.take i) 0) :: led) s → Q (.ref D) s) (hs : subscripted slice false (.ref l) (.ref sl) = operate [.ref sl, .ref l] (getItem (.ref l) (.ref sl))) :
    wpAny (model prog w) A (subscriptTail value slice (.ref l) (.ref sl)) Q E s := by
  refine tail_any hm.typeIs slot_list_getitem.lookup (wpAny_getItem_list_slice hm hsl .none (.int _ _) .none (by simp) ?_ (by rw [List.size_toArray, sizeLine_eq]; lia)) hs
  have e : slicePick items.toArray none (some (i : Int)) none = (items.take i).toArray := by
    by_cases hi : i ≤ items.length
    · exact slicePick_upto _ _ (by simpa using hi)
    · have e2 : sliceBounds none (some (i : Int)) none items.toArray.size = sliceBounds none (some ((items.length : Nat) : Int)) none items.toArray.size := by
        simp only [sliceBounds, Option.getD_none, List.size_toArray]
        have h1 : ¬ ((i : Int) < 0) := by lia
        have h2 : ¬ ((items.length : Int) < 0) := by lia
        simp only [h1, h2, if_false, show (1 : Int) > 0 by decide, if_true]
        congr 2
        lia
      have e3 : slicePick items.toArray none (some (i : Int)) none = slicePick items.toArray none (some ((items.length : Nat) : Int)) none := by unfold slicePick; rw [e2]
      rw [e3, slicePick_upto _ _ (by simp)]
      simp [List.take_of_length_le (show items.length ≤ i by lia)]
  rw [e]
  exact h _ _ (C.new (s' := { s with heap := s.heap.push _ }) (fun _ _ e => Heap.get?_push_of_some _ e) (Heap.get?_push_size _ rfl) rfl)
theorem Cx.back {led' : Led} {s' : Shared} (C' : Cx w c A n m led' s') (h : ∀ p ∈ led, p ∈ led') (C : (led.map (·.1)).Nodup) : Cx w c A n m led s' := C'.step C'.F (fun p hp => C'.N p (h p hp)) C
theorem Cx.pick {x : Addr × Obj} (C : Cx w c A n m led s) (h : x ∈ led) : ∃ led', Cx w c A n m (x :: led') s ∧ (∀ p ∈ led', p ∈ led) ∧ ∀ p ∈ led, p ≠ x → p ∈ led' := by
  obtain ⟨a, b, rfl⟩ := List.append_of_mem h
  refine ⟨a ++ b, C.pull, fun p hp => ?_, fun p hp hne => ?_⟩
  · rcases List.mem_append.mp hp with q | q
    · exact List.mem_append_left _ q
    · exact List.mem_append_right _ (.tail _ q)
  · rcases List.mem_append.mp hp with q | q
    · exact List.mem_append_left _ q
    · rcases List.mem_cons.mp q with q | q
      · exact absurd q hne
      · exact List.mem_append_right _ q
theorem take_snoc {α : Type} {l : List α} {i : Nat} (h : i < l.length) : l.take (i + 1) = l.take i ++ [l[i]] := by rw [List.take_succ, List.getElem?_eq_getElem h]; rfl
inductive RowY {β : Type} (w : World) (c : Cfg) (A : Around) (n : Nat) (m : Loc) (Y : Led → List Value → List β → Prop) (pp : Bool) (fr : β) (a D I : Addr) (o : Obj) (j : Nat) (ys : List Value) (led : Led) (v : Value) (s : Shared) : Prop
  | mk (oC : Obj) (m2 : Loc) (led' : Led) (hn : NsObj oC m2) (C : Cx w c A n m ((a, oC) :: (D, lstO ys j) :: (I, o) :: led') s) (h1 : ∀ q ∈ led, q ∈ led') (h2 : pp = true) (h3 : ∀ zs, Y led ys zs → Y led' (ys ++ [v]) (zs ++ [fr])) : RowY w c A n m Y pp fr a D I o j ys led v s
inductive RowN (w : World) (c : Cfg) (A : Around) (n : Nat) (m : Loc) (pp : Bool) (a D I : Addr) (o : Obj) (j : Nat) (ys : List Value) (led : Led) (s : Shared) : Prop
  | mk (oC : Obj) (m2 : Loc) (hn : NsObj oC m2) (C : Cx w c A n m ((a, oC) :: (D, lstO ys j) :: (I, o) :: led) s) (h : pp = false) : RowN w c A n m pp a D I o j ys led s
noncomputable def RowTurn {β : Type} (prog : Program) (w : World) (c : Cfg) (A : Around) (n : Nat) (m : Loc) (Y : Led → List Value → List β → Prop) (p : Int × Int → Bool) (f : Int × Int → β) (x y : Str) (scope : Scope) (cl : List (Str × Addr)) (env : Env) (elt : PySem.Expr) (cnd : Option PySem.Expr) (rows : Rows) (led : Led) : Prop :=
  ∀ i (hi : i < rows.length) ys led' s E' a D oC m2 I o j t1 t2, (∀ q ∈ led, q ∈ led') → NsObj oC m2 → m2 x = some (.int rows[i].1 t1) → m2 y = some (.int rows[i].2 t2) → Cx w c A n m ((a, oC) :: (D, lstO ys j) :: (I, o) :: led') s →
    Test prog w A (compEnvC scope cl a env) E' (fun s => wpAny (model prog w) A (eval elt (compEnvC scope cl a env)) (RowY w c A n m Y (p rows[i]) (f rows[i]) a D I o j ys led') E' s) (RowN w c A n m (p rows[i]) a D I o j ys led') cnd s
inductive RowSrc {β : Type} (prog : Program) (w : World) (c : Cfg) (A : Around) (n : Nat) (Y : Led → List Value → List β → Prop) (p : Int × Int → Bool) (f : Int × Int → β) (x y : Str) (scope : Scope) (cl : List (Str × Addr)) (env : Env) (elt : PySem.Expr) (cnd : Option PySem.Expr) (Fin : Loc → List Value → Led → Prop) (xv : Value) (s : Shared) : Prop
  | mk (m : Loc) (led : Led) (l : Addr) (items : List Value) (k : Nat) (rows : Rows) (e : xv = .ref l) (C : Cx w c A n m led s) (hl : (l, lstO items k) ∈ led) (hv : RowsV led items rows) (hz : rows.length ≤ 1000) (turn : RowTurn prog w c A n m Y p f x y scope cl env elt cnd rows led)
    (done : ∀ ys led', (∀ q ∈ led, q ∈ led') → Y led' ys ((rows.filter p).map f) → Fin m ys led') : RowSrc prog w c A n Y p f x y scope cl env elt cnd Fin xv s
theorem rows_src {β : Type} {Y : Led → List Value → List β → Prop} {p : Int × Int → Bool} {f : Int × Int → β} {x y : Str} {scope : Scope} {cl : List (Str × Addr)} {env : Env} {elt : PySem.Expr} {cnd : Option PySem.Expr} {px py tp : Pos} {kk : Nat} {xv : Value} {Fin : Loc → List Value → Led → Prop}
    (Y0 : ∀ led, Y led [] []) (Yl : ∀ led ys zs, Y led ys zs → ys.length = zs.length)
    (hx : ∀ a, (compEnvC scope cl a env).kindOf x = some .local) (hy : ∀ a, (compEnvC scope cl a env).kindOf y = some .local) (hk : scope.kind = .function) (hxy : x ≠ y)
    (h : RowSrc prog w c A n Y p f x y scope cl env elt cnd Fin xv s) : CmpS prog w c A n (.Tuple [.Name x px, .Name y py] kk tp) elt cnd scope cl env Fin xv s := by
  obtain ⟨m, led, l, items, k, rows, rfl, C, hl, hv, hz, turn, done⟩ := h
  have hlen := hv.len
  refine ⟨m, led, l, items, k, rfl, C, hl, by lia, fun i ys led' => (∀ q ∈ led, q ∈ led') ∧ Y led' ys (((rows.take i).filter p).map f), ?_, ⟨fun _ h => h, by simpa using Y0 led⟩, ?_, ?_, ?_⟩
  · rintro i ys led' ⟨hs, hy⟩
    refine ⟨hs _ hl, ?_⟩
    rw [Yl _ _ _ hy, List.length_map]
    have := List.length_filter_le p (rows.take i)
    rw [List.length_take] at this
    lia
  · intro v hvm
    obtain ⟨i, hi, rfl⟩ := List.getElem_of_mem hvm
    obtain ⟨v, h1, t, _, _, _, rfl, _⟩ := hv.get i (by lia)
    rw [List.getElem?_eq_getElem hi] at h1
    rw [Option.some.inj h1]; exact lets_tuple
  · rintro i ys led' s v E' a D oC m2 I o j hvi ⟨hs, hyy⟩ hn C
    have hi : i < rows.length := by rw [← hlen]; exact (List.getElem?_eq_some_iff.mp hvi).1
    obtain ⟨v', h1, t, k1, k2, j', rfl, hm⟩ := hv.get i hi
    rw [hvi] at h1
    obtain rfl := Option.some.inj h1
    refine as_pair C hn (.tail _ (.tail _ (hs _ hm))) rfl (hx a) (hy a) (by simp [compEnvC, relabel, hk]) fun oC s hn C => ?_
    have T := turn i hi ys led' s E' a D oC _ I o j k1 k2 hs hn (upd_n hxy upd_s) upd_s C
    have yes : ∀ v s, RowY w c A n m Y (p rows[i]) (f rows[i]) a D I o j ys led' v s → CmpN w c A n m a D I o j ys (fun led' => (∀ q ∈ led, q ∈ led') ∧ Y led' (ys ++ [v]) (((rows.take (i + 1)).filter p).map f)) s := fun v s h => by
      obtain ⟨oC, m2, led'', hn, C, h1, h2, h3⟩ := h
      exact ⟨oC, m2, led'', hn, C, fun q hq => h1 _ (hs _ hq), by rw [take_snoc hi, List.filter_append, List.map_append, List.filter_cons_of_pos h2, List.filter_nil]; exact h3 _ hyy⟩
    have no : ∀ s, RowN w c A n m (p rows[i]) a D I o j ys led' s → CmpN w c A n m a D I o j ys (fun led' => (∀ q ∈ led, q ∈ led') ∧ Y led' ys (((rows.take (i + 1)).filter p).map f)) s := fun s h => by
      obtain ⟨oC, m2, hn, C, h2⟩ := h
      exact ⟨oC, m2, led', hn, C, hs, by rw [take_snoc hi, List.filter_append, List.map_append, List.filter_cons_of_neg (by rw [h2]; decide), List.filter_nil, List.map_nil, List.append_nil]; exact hyy⟩
    cases cnd with
    | none => exact wpAny_mono T yes fun _ _ e => e
    | some t => exact wpAny_mono T (fun b s hb => by
        cases b with
        | true => simp only [if_true] at hb ⊢; exact wpAny_mono hb yes fun _ _ e => e
        | false => simp only [Bool.false_eq_true, if_false] at hb ⊢; exact no s hb) fun _ _ e => e
  · rintro ys led' ⟨hs, hy⟩
    rw [List.take_of_length_le (by lia)] at hy
    exact done ys led' hs hy
theorem rows_eval {β : Type} (Y : Led → List Value → List β → Prop) (p : Int × Int → Bool) (f : Int × Int → β) {x y : Str} {elt iter : PySem.Expr} {cnd : Option PySem.Expr} {px py tp : Pos} {kk : Nat} {scope : Scope} {cl : List (Str × Addr)} {pos : Pos} {env : Env} {Q : Value → Shared → Prop} (C : Cx w c A n m led s)
    (Y0 : ∀ led, Y led [] []) (Yl : ∀ led ys zs, Y led ys zs → ys.length = zs.length)
    (hclos : closureFor scope env = pure cl) (hcell : ∀ y ∈ scope.names, y.2 ≠ .cell) (hkind : scope.kind = .function) (hnames : ∀ y ∈ scope.names, y.2 = .local → scope.names.lookup y.1 = some .local)
    (hx : ∀ a, (compEnvC scope cl a env).kindOf x = some .local) (hy : ∀ a, (compEnvC scope cl a env).kindOf y = some .local) (hxy : x ≠ y)
    (h : wpAny (model prog w) A (eval iter env) (RowSrc prog w c A n Y p f x y scope cl env elt cnd (fun m ys led => ∀ s D j, Cx w c A n m ((D, lstO ys j) :: led) s → Q (.ref D) s)) E s)
    (hs : ∀ x, foldedSetIterable iter env x = pure x := by intro _; rfl) :
    wpAny (model prog w) A (eval (.ListComp elt [⟨.Tuple [.Name x px, .Name y py] kk tp, iter, cnd.toList, 0⟩] scope pos) env) Q E s :=
  comp_eval C hclos hcell hkind hnames (wpAny_mono h (fun _ _ h => rows_src Y0 Yl hx hy hkind hxy h) fun _ _ e => e) hs
theorem rows_assign {β : Type} (Y : Led → List Value → List β → Prop) (p : Int × Int → Bool) (f : Int × Int → β) {x y z : Str} {elt iter : PySem.Expr} {cnd : Option PySem.Expr} {px py pz tp spos : Pos} {kk : Nat} {scope : Scope} {cl : List (Str × Addr)} {pos : Pos} {env : Env} {Q : Flow → Shared → Prop} (C : Cx w c A n m led s)
    (hsw : swapsWith (.ListComp elt [⟨.Tuple [.Name x px, .Name y py] kk tp, iter, cnd.toList, 0⟩] scope pos) (some (.Name z pz)) spos.line env = pure true) (he : env.locals = c.L) (hek : env.scope.kind = .function) (hz : env.kindOf z = some .local)
    (Y0 : ∀ led, Y led [] []) (Yl : ∀ led ys zs, Y led ys zs → ys.length = zs.length)
    (hclos : closureFor scope env = pure cl) (hcell : ∀ y ∈ scope.names, y.2 ≠ .cell) (hkind : scope.kind = .function) (hnames : ∀ y ∈ scope.names, y.2 = .local → scope.names.lookup y.1 = some .local)
    (hx : ∀ a, (compEnvC scope cl a env).kindOf x = some .local) (hy : ∀ a, (compEnvC scope cl a env).kindOf y = some .local) (hxy : x ≠ y)
    (h : wpAny (model prog w) A (eval iter env) (RowSrc prog w c A n Y p f x y scope cl env elt cnd (fun m ys led => ∀ s D j, Cx w c A n (upd m z (.ref D)) ((D, lstO ys j) :: led) s → Q .next s)) E s)
    (hs : ∀ x, foldedSetIterable iter env x = pure x := by intro _; rfl) :
    wpAny (model prog w) A (exec (.Assign [.Name z pz] (.ListComp elt [⟨.Tuple [.Name x px, .Name y py] kk tp, iter, cnd.toList, 0⟩] scope pos) spos) env) Q E s :=
  comp_assign C hsw he hek hz hclos hcell hkind hnames (wpAny_mono h (fun _ _ h => rows_src Y0 Yl hx hy hkind hxy h) fun _ _ e => e) hs
end
end Mine
end

section
open PySem PySem.W PySem.Calls PyProof.Rows PyProof.Rows.LCg
namespace Mine
noncomputable def lens (rows : Rows) : List Int := rows.map fun r => r.2 - r.1
noncomputable abbrev YI : Led → List Value → List Int → Prop := fun _ ys zs => IntsAre ys zs
theorem YI0 : ∀ led, YI led [] [] := fun _ => .nil
theorem YIl : ∀ led ys zs, YI led ys zs → ys.length = zs.length := fun _ _ _ h => IntsAre.length h
theorem lens_all (rows : Rows) : (rows.filter fun _ => true).map (fun r : Int × Int => r.2 - r.1) = lens rows := by rw [List.filter_eq_self.mpr fun _ _ => rfl]; rfl
noncomputable def OptI : Value → Option Int → Prop
  | .none, none => True
  | .int i _, some j => i = j
  | _, _ => False
section
variable {prog : Program} {w : World} {c : Cfg} {A : Around} {n : Nat} {m : Loc} {led : Led} {s : Shared} {E : Value → Shared → Prop}
theorem spec_total {r l : Addr} {items : List Value} {k : Nat} {rows : Rows} {Q : Value → Shared → Prop} (C : Cx w c A (n + 1) m led s)
    (R : RgSt led r l items k rows) (K : ∀ t s, Cx w c A (n + 1) m led s → Q (.int (lens rows).sum t) s) :
    wpAny (model prog w) A (call (.ref 102) [.ref r]) Q E s := by
  have hr := R.hr; have hl := R.hl; have hv := R.hv; have hz := R.hg.len
  have nd := C.nd
  refine enter0 (binds := [(Str.ofString "self", .ref r)]) C (by k_is) (by k_is) (BindsTo.of_eq rfl) (locs rfl) (fun c A E s C Qr kQ => ?_) rfl rfl rfl (by decide)
  walk_at "xc"
  refine wpAny_Return_some ?_
  refine Call_ ?_
  refine nm_b C (by k_is) (by boot_fast) ?_ (by decide) rfl rfl (by decide)
  refine PyProof.Rows.callWith_builtin1 ?_
  refine spliced_more ?_
  refine rows_eval YI (fun _ => true) (fun r => r.2 - r.1) (cnd := none) (cl := []) C YI0 YIl rfl (by decide) rfl (by decide) (fun _ => rfl) (fun _ => rfl) (by decide) ?_
  refine Attribute_any_ ?_
  refine nm_l C (by walk_at "lk") ?_ rfl rfl (by decide)
  refine at_rows C hr fun s C => ?_
  refine ⟨_, led, l, items, k, rows, rfl, C, hl, hv, by lia, ?_, ?_⟩
  · intro i hi ys led' s E' a D oC m2 I o j t1 t2 hs hn h1 h2 C
    refine wpAny_BinOp ?_
    refine nm_v C (by walk_at "mm") hn (by walk_at "lk") rfl rfl rfl (by decide) ?_
    refine nm_v C (by walk_at "mm") hn (by walk_at "lk") rfl rfl rfl (by decide) ?_
    with_reducible refine a_sub C fun t s C => ?_
    exact ⟨_, _, _, hn, C, fun _ h => h, rfl, fun zs h => Mine.IntsAre.snoc h _ _⟩
  · intro ys led' hs hy s D j C
    refine spliced_none ?_
    rw [lens_all] at hy
    refine b_sum C (.head _) hy fun t s C => ?_
    try walk_at "rt"
    exact kQ _ _ _ _ (C.drop.back hs nd) (fun C => K _ _ C)
theorem spec_longest {r l : Addr} {items : List Value} {k : Nat} {rows : Rows} {Q : Value → Shared → Prop} (C : Cx w c A (n + 1) m led s)
    (R : RgSt led r l items k rows) (K : ∀ M t s, IsMax (0 :: lens rows) M → Cx w c A (n + 1) m led s → Q (.int M t) s) :
    wpAny (model prog w) A (call (.ref 107) [.ref r]) Q E s := by
  have hr := R.hr; have hl := R.hl; have hv := R.hv; have hz := R.hg.len
  have nd := C.nd
  refine enter0 (binds := [(Str.ofString "self", .ref r)]) C (by k_is) (by k_is) (BindsTo.of_eq rfl) (locs rfl) (fun c A E s C Qr kQ => ?_) rfl rfl rfl (by decide)
  walk_at "xc"
  refine wpAny_Return_some ?_
  refine Call_ ?_
  refine nm_b C (by k_is) (by boot_fast) ?_ (by decide) rfl rfl (by decide)
  refine PyProof.Rows.callWith_builtin1 ?_
  refine spliced_more ?_
  refine wpAny_BinOp ?_
  refine List_ ?_
  refine spliced_more ?_
  with_reducible refine k_int C fun t s C => ?_
  refine spliced_none ?_
  refine mk_list C (Nat.le_of_ble_eq_true rfl) fun z s C => ?_
  rename_i t0 _ _ _
  refine rows_eval YI (fun _ => true) (fun r => r.2 - r.1) (cnd := none) (cl := []) C YI0 YIl rfl (by decide) rfl (by decide) (fun _ => rfl) (fun _ => rfl) (by decide) ?_
  refine Attribute_any_ ?_
  refine nm_l C (by walk_at "lk") ?_ rfl rfl (by decide)
  refine at_rows C (hr.mono fun p hp => .tail _ hp) fun s C => ?_
  refine ⟨_, _, l, items, k, rows, rfl, C, .tail _ hl, hv.mono fun p hp => .tail _ hp, by omega, ?_, ?_⟩
  · intro i hi ys led' s E' a D oC m2 I o j t1 t2 hs hn h1 h2 C
    refine wpAny_BinOp ?_
    refine nm_v C (by walk_at "mm") hn (by walk_at "lk") rfl rfl rfl (by decide) ?_
    refine nm_v C (by walk_at "mm") hn (by walk_at "lk") rfl rfl rfl (by decide) ?_
    with_reducible refine a_sub C fun t s C => ?_
    exact ⟨_, _, _, hn, C, fun _ h => h, rfl, fun zs h => Mine.IntsAre.snoc h _ _⟩
  · intro ys led' hs hy s D j C
    rw [lens_all] at hy
    have hyl := IntsAre.length hy
    refine a_list C (.tail _ (hs _ (.head _))) (.head _) (by rw [hyl]; unfold lens; rw [List.length_map]; simp; lia) fun D2 s C => ?_
    refine spliced_none ?_
    refine b_maxl C (.head _) (Mine.IntsAre.append (.cons 0 _ .nil) hy) (by simp) fun M t s h1 h2 C => ?_
    try walk_at "rt"
    exact kQ _ _ _ _ (C.drop.drop.back (fun p hp => hs _ (.tail _ hp)) nd) (fun C => K _ _ _ ⟨h1, h2⟩ C)
theorem spec_parts {r l : Addr} {items : List Value} {k : Nat} {rows : Rows} {Q : Value → Shared → Prop} (C : Cx w c A (n + 1) m led s)
    (R : RgSt led r l items k rows) (K : ∀ D j s, Cx w c A (n + 1) m ((D, lstO items j) :: led) s → Q (.ref D) s) :
    wpAny (model prog w) A (call (.ref 114) [.ref r]) Q E s := by
  have hr := R.hr; have hl := R.hl; have hv := R.hv; have hz := R.hg.len
  have hlen := hv.len
  refine enter0 (binds := [(Str.ofString "self", .ref r)]) C (by k_is) (by k_is) (BindsTo.of_eq rfl) (locs rfl) (fun c A E s C Qr kQ => ?_) rfl rfl rfl (by decide)
  walk_at "xc"
  refine wpAny_Return_some ?_
  refine Call_ ?_
  refine nm_b C (by k_is) (by boot_fast) ?_ (by decide) rfl rfl (by decide)
  refine PyProof.Rows.callWith_type1 ?_
  refine spliced_more ?_
  refine Attribute_any_ ?_
  refine nm_l C (by walk_at "lk") ?_ rfl rfl (by decide)
  refine at_rows C hr fun s C => ?_
  refine spliced_none ?_
  refine b_copy C hl (by lia) fun D j s C => ?_
  walk_at "ar"
  try walk_at "rt"
  exact kQ _ _ _ _ C (fun C => K _ _ _ C)
theorem spec_ffit {r l : Addr} {items : List Value} {k : Nat} {rows : Rows} {y least : Int} {t1 t2 : Tok} {Q : Value → Shared → Prop} (C : Cx w c A (n + 2) m led s)
    (R : RgSt led r l items k rows) (hy : 0 < y) (K : ∀ v s, OptI v (ffit rows y least) → Cx w c A (n + 2) m led s → Q v s) :
    wpAny (model prog w) A (call (.ref 129) [.ref r, .int y t1, .int least t2]) Q E s := by
  have hr := R.hr; have hl := R.hl; have hv := R.hv; have hz := R.hg.len
  have hlen := hv.len
  have nd := C.nd
  refine enter0 (binds := [(Str.ofString "self", .ref r), (Str.ofString "many", .int y t1), (Str.ofString "least", .int least t2)]) C (by k_is) (by k_is) (binds_K C.Xs rfl (by k_is) rfl rfl rfl) (locs rfl) (fun c A E s C Qr kQ => ?_) rfl rfl rfl (by decide)
  walk_at "xc"
  refine wpAny_For ?_
  refine Subscript_ ?_
  refine Attribute_any_ ?_
  refine nm_l C (by walk_at "lk") ?_ rfl rfl (by decide)
  refine at_rows C hr fun s C => ?_
  refine x_slice ?_
  refine evalPart_some_step ?_
  refine opv fun _ _ => ?_
  refine Call_ ?_
  refine nm_b C (by k_is) (by boot_fast) ?_ (by decide) rfl rfl (by decide)
  refine PyProof.Rows.callWith_builtin1 ?_
  refine spliced_more ?_
  with_reducible refine k_int C fun t s C => ?_
  refine spliced_more ?_
  refine opv fun _ _ => ?_
  refine wpAny_BinOp ?_
  refine MethodCall_ ?_
  refine nm_l C (by walk_at "lk") ?_ rfl rfl (by decide)
  refine mr_behind C hr ?_
  refine cw_more C (by k_is) ?_
  refine spliced_more ?_
  refine nm_l C (by walk_at "lk") ?_ rfl rfl (by decide)
  refine spliced_none ?_
  refine ⟨C.Xs, ?_⟩
  refine spec_behind C R fun b t s B C => ?_
  with_reducible refine k_int C fun t s C => ?_
  with_reducible refine a_sub C fun t s C => ?_
  walk_at "op"
  refine spliced_none ?_
  refine b_max C fun t s C => ?_
  walk_at "op"
  have hb := B.le
  rw [show max (0 : Int) ((b : Int) - 1) = ((b - 1 : Nat) : Int) by lia]
  refine evalPart_none_step ?_
  refine evalPart_none_step ?_
  refine slc C fun D3 s C hS => ?_
  refine it_from C hl hS (by omega) (by lia) (fun D s C => ?_) (by with_unfolding_all rfl)
  refine iter_list C (.head _) fun I o s hI C => ?_
  have hv2 := hv.drop (b - 1)
  have hlen2 := hv2.len
  refine for_list C hI (fun i m' led' => led' = (D, lstO (items.drop (b - 1)) 0) :: led ∧ m' (Str.ofString "many") = some (.int y t1) ∧ m' (Str.ofString "least") = some (.int least t2) ∧ ∀ j (hj : j < (rows.drop (b - 1)).length), j < i → fitsAt y least (rows.drop (b - 1))[j] = false)
    (fun i m' led' h => by rw [h.1]; exact .head _) ⟨rfl, by walk_at "lk", by walk_at "lk", fun j hj h => absurd h (Nat.not_lt_zero _)⟩ ?_ ?_ ?_
  · intro v hvm
    obtain ⟨i, hi, rfl⟩ := List.getElem_of_mem hvm
    obtain ⟨v, h1, t, _, _, _, rfl, _⟩ := hv2.get i (by lia)
    rw [List.getElem?_eq_getElem hi] at h1
    rw [Option.some.inj h1]; exact lets_tuple
  · rintro i m' led' s v E' o hvi ⟨rfl, m1, m2, hno⟩ _ C T kN kR
    have hi : i < (rows.drop (b - 1)).length := by rw [← hlen2]; exact (List.getElem?_eq_some_iff.mp hvi).1
    obtain ⟨v', h1, tt, k1, k2, j', rfl, hm⟩ := hv2.get i hi
    rw [hvi] at h1
    obtain rfl := Option.some.inj h1
    refine as_pairF C (.tail _ (.tail _ hm)) rfl rfl rfl fun s C => ?_
    walk_at "xc"
    refine wpAny_If ?_
    refine opv fun _ _ => ?_
    refine wpAny_isTrue_Compare1 ?_
    refine opv fun _ _ => ?_
    refine wpAny_BinOp ?_
    refine Call_ ?_
    refine nm_b C (by k_is) (by boot_fast) ?_ (by decide) rfl rfl (by decide)
    refine PyProof.Rows.callWith_builtin1 ?_
    refine spliced_more ?_
    refine nm_l C (by walk_at "lk") ?_ rfl rfl (by decide)
    refine spliced_more ?_
    refine nm_l C (by walk_at "lk") ?_ rfl rfl (by decide)
    refine spliced_none ?_
    refine b_max C fun t s C => ?_
    refine nm_l C (by walk_at "lk") ?_ rfl rfl (by decide)
    with_reducible refine a_add C fun t s C => ?_
    walk_at "op"
    refine nm_l C (by walk_at "lk") ?_ rfl rfl (by decide)
    refine le_int ?_
    refine wpAny_truthy_bool ?_
    walk_at "op"
    refine ite_dec (fun g => ?_) (fun g => ?_)
    · walk_at "xc"
      refine wpAny_Return_some ?_
      refine Call_ ?_
      refine nm_b C (by k_is) (by boot_fast) ?_ (by decide) rfl rfl (by decide)
      refine PyProof.Rows.callWith_builtin1 ?_
      refine spliced_more ?_
      refine nm_l C (by walk_at "lk") ?_ rfl rfl (by decide)
      refine spliced_more ?_
      refine nm_l C (by walk_at "lk") ?_ rfl rfl (by decide)
      refine spliced_none ?_
      refine b_max C fun t s C => ?_
      walk_at "ar"
      refine kR _ _ ?_
      try walk_at "rt"
      refine kQ _ _ _ led C.drop.drop (fun C => K _ _ ?_ C)
      have e := ffit_drop R.hg B hy
      unfold ffit
      rw [← e, find_at hi hno (decide_eq_true g)]
      rfl
    · walk_at "xn"
      walk_at "xn"
      refine kN _ _ _ C ⟨rfl, by walk_at "lk", by walk_at "lk", fun j hj h => ?_⟩
      rcases Nat.lt_succ_iff_lt_or_eq.mp h with q | rfl
      · exact hno j hj q
      · exact decide_eq_false g
  · rintro m' led' s E' ⟨rfl, m1, m2, hno⟩ C
    walk_at "xn"
    walk_at "xc"
    refine wpAny_Return_some ?_
    refine Constant_none ?_
    walk_at "ar"
    try walk_at "rt"
    refine kQ _ _ _ led C.drop (fun C => K _ _ ?_ C)
    have e := ffit_drop R.hg B hy
    unfold ffit
    rw [← e, List.find?_eq_none.mpr (fun x hx => ?_)]
    · trivial
    · obtain ⟨j, hj, rfl⟩ := List.getElem_of_mem hx
      rw [hno j hj (by lia)]; decide
end
end Mine
end

section
open PySem
namespace Mine
open SetTable
noncomputable abbrev Rise (xs : Array Nat) : Prop := xs.toList.Pairwise (· < ·)
structure BelowAt (xs : Array Nat) (j p : Nat) : Prop where
  le : p ≤ xs.size
  lo : ∀ i (h : i < xs.size), i < p → xs[i] < j
  hi : ∀ i (h : i < xs.size), p ≤ i → j ≤ xs[i]
theorem rise_get {xs : Array Nat} (h : Rise xs) {i k : Nat} (hi : i < xs.size) (hk : k < xs.size) (hik : i < k) : xs[i] < xs[k] := by
  have := List.pairwise_iff_getElem.mp h i k (by simpa using hi) (by simpa using hk) hik
  simpa using this
theorem rise_le {xs : Array Nat} (h : Rise xs) {i k : Nat} (hi : i < xs.size) (hk : k < xs.size) (hik : i ≤ k) : xs[i] ≤ xs[k] := by
  rcases Nat.eq_or_lt_of_le hik with rfl | q
  · exact Nat.le_refl _
  · exact Nat.le_of_lt (rise_get h hi hk q)
theorem below_go {xs : Array Nat} {j : Nat} (h : Rise xs) : ∀ fuel lo hi, hi - lo ≤ fuel → lo ≤ hi → hi ≤ xs.size → (∀ i (q : i < xs.size), i < lo → xs[i] < j) → (∀ i (q : i < xs.size), hi ≤ i → j ≤ xs[i]) → BelowAt xs j (below.go xs j fuel lo hi)
  | 0, lo, hi, hf, hl, hs, h1, h2 => by
    have e : lo = hi := by lia
    subst e
    unfold below.go
    exact ⟨hs, h1, h2⟩
  | fuel + 1, lo, hi, hf, hl, hs, h1, h2 => by
    unfold below.go
    by_cases hlt : lo < hi
    · rw [if_pos hlt]
      have hm : (lo + hi) / 2 < xs.size := by lia
      have e : xs.getD ((lo + hi) / 2) j = xs[(lo + hi) / 2] := by simp [Array.getD, hm]
      simp only [e]
      by_cases hc : xs[(lo + hi) / 2] < j
      · rw [if_pos hc]
        refine below_go h fuel _ _ (by omega) (by lia) hs (fun i q hi' => ?_) h2
        exact Nat.lt_of_le_of_lt (rise_le h q hm (by lia)) hc
      · rw [if_neg hc]
        refine below_go h fuel _ _ (by omega) (by lia) (by lia) h1 (fun i q hi' => ?_)
        exact Nat.le_trans (Nat.not_lt.mp hc) (rise_le h hm q hi')
    · rw [if_neg hlt]
      have e : lo = hi := by lia
      subst e
      exact ⟨hs, h1, h2⟩
theorem below_at {xs : Array Nat} {j : Nat} (h : Rise xs) : BelowAt xs j (below xs j) :=
  below_go h _ _ _ (by lia) (Nat.zero_le _) (Nat.le_refl _) (fun i q hi => absurd hi (Nat.not_lt_zero _)) (fun i q hi => absurd q (Nat.not_lt.mpr hi))
theorem insert_rise {xs : Array Nat} {j : Nat} (h : Rise xs) (hn : xs[below xs j]? ≠ some j) : Rise (insertAt xs (below xs j) j) := by
  have B := below_at (j := j) h
  unfold Rise
  rw [toList_insertAt, List.pairwise_append, List.pairwise_cons]
  refine ⟨h.sublist (List.take_sublist _ _), ⟨fun a ha => ?_, h.sublist (List.drop_sublist _ _)⟩, fun a ha b hb => ?_⟩
  · obtain ⟨i, hi, e⟩ := List.getElem_of_mem ha
    rw [List.length_drop, Array.length_toList] at hi
    rw [List.getElem_drop, Array.getElem_toList] at e
    subst e
    have z := B.hi (below xs j + i) (by omega) (by lia)
    rcases Nat.eq_or_lt_of_le z with q | q
    · exfalso
      have z0 := B.hi (below xs j) (by omega) (Nat.le_refl _)
      have z1 := rise_le h (i := below xs j) (k := below xs j + i) (by omega) (by omega) (by lia)
      refine hn ?_
      rw [Array.getElem?_eq_getElem (by omega : below xs j < xs.size)]
      congr 1
      omega
    · exact q
  · obtain ⟨i, hi, e⟩ := List.getElem_of_mem ha
    rw [List.length_take, Array.length_toList] at hi
    rw [List.getElem_take, Array.getElem_toList] at e
    subst e
    have z := B.lo i (by lia) (by lia)
    rcases List.mem_cons.mp hb with rfl | hb
    · exact z
    · obtain ⟨k, hk, e⟩ := List.getElem_of_mem hb
      rw [List.length_drop, Array.length_toList] at hk
      rw [List.getElem_drop, Array.getElem_toList] at e
      subst e
      exact Nat.lt_of_lt_of_le z (B.hi _ (by omega) (by lia))
theorem erase_list {α : Type} (xs : Array α) (p : Nat) : (eraseAt xs p).toList = xs.toList.eraseIdx p := by
  unfold eraseAt
  rw [List.eraseIdx_eq_take_drop_succ]
  simp [List.extract_eq_take_drop, List.take_of_length_le]
theorem erase_rise {xs : Array Nat} (h : Rise xs) (p : Nat) : Rise (eraseAt xs p) := by
  unfold Rise; rw [erase_list]; exact h.sublist (List.eraseIdx_sublist ..)
theorem insert_size {α : Type} (xs : Array α) (p : Nat) (x : α) : (insertAt xs p x).size = xs.size + 1 := by
  have := (insertAt_perm xs p x).length_eq
  rw [Array.length_toList, Array.length_toList, Array.size_push] at this
  exact this
theorem erase_size {α : Type} (xs : Array α) (p : Nat) (h : p < xs.size) : (eraseAt xs p).size + 1 = xs.size := by
  have e : (eraseAt xs p).size = (eraseAt xs p).toList.length := (Array.length_toList).symm
  rw [e, erase_list, List.length_eraseIdx]
  simp only [Array.length_toList, h, if_true]
  lia
noncomputable def leaps (mask : Nat) : Nat → Nat × Nat → Nat × Nat
  | 0, q => q
  | k + 1, q => leaps mask k (leap mask q.1 q.2)
theorem leaps_add (mask : Nat) : ∀ (a b : Nat) (q : Nat × Nat), leaps mask (a + b) q = leaps mask b (leaps mask a q)
  | 0, b, q => by rw [Nat.zero_add]; rfl
  | a + 1, b, q => by rw [Nat.succ_add]; exact leaps_add mask a b _
theorem leaps_perturb (mask : Nat) : ∀ (k : Nat) (q : Nat × Nat), (leaps mask k q).2 = q.2 / 32 ^ k
  | 0, q => by simp [leaps]
  | k + 1, q => by
    show (leaps mask k (leap mask q.1 q.2)).2 = _
    rw [leaps_perturb]
    show q.2 / 32 / 32 ^ k = _
    rw [Nat.div_div_eq_div_mul, Nat.pow_succ, Nat.mul_comm 32]
noncomputable def cyc (mask : Nat) : Nat → Nat → Nat
  | 0, i => i
  | k + 1, i => cyc mask k ((i * 5 + 1) % (mask + 1))
theorem leaps_cyc (mask : Nat) : ∀ (k i : Nat), leaps mask k (i, 0) = (cyc mask k i, 0)
  | 0, _ => rfl
  | k + 1, i => by
    show leaps mask k ((i * 5 + 1 + 0 / 32) % (mask + 1), 0 / 32) = _
    rw [show (0 : Nat) / 32 = 0 from rfl, Nat.add_zero]
    exact leaps_cyc mask k _
noncomputable def bitsOf (mask : Nat) : Nat → Nat → Nat → Nat
  | 0, _, acc => acc
  | k + 1, i, acc => bitsOf mask k ((i * 5 + 1) % (mask + 1)) (acc ||| 2 ^ i)
theorem bitsOf_mem (mask : Nat) : ∀ (k i acc j : Nat), (bitsOf mask k i acc).testBit j = true → acc.testBit j = true ∨ ∃ a, a < k ∧ cyc mask a i = j
  | 0, _, _, _, h => .inl h
  | k + 1, i, acc, j, h => by
    rcases bitsOf_mem mask k _ _ j h with q | ⟨a, ha, e⟩
    · rw [Nat.testBit_or, Bool.or_eq_true] at q
      rcases q with q | q
      · exact .inl q
      · rw [Nat.testBit_two_pow, decide_eq_true_eq] at q
        exact .inr ⟨0, Nat.succ_pos _, q⟩
    · exact .inr ⟨a + 1, by lia, e⟩
noncomputable def masks : List Nat := [7, 15, 31, 63, 127, 255]
theorem masks_full : ∀ mask ∈ masks, ∀ i < mask + 1, bitsOf mask (mask + 1) i 0 = 2 ^ (mask + 1) - 1 := by decide +kernel
theorem cyc_all {mask : Nat} (hm : mask ∈ masks) {i j : Nat} (hi : i ≤ mask) (hj : j ≤ mask) : ∃ a, a ≤ mask ∧ cyc mask a i = j := by
  have e := masks_full mask hm i (by lia)
  have h : (bitsOf mask (mask + 1) i 0).testBit j = true := by
    rw [e, Nat.testBit_two_pow_sub_one]; exact decide_eq_true (by lia)
  rcases bitsOf_mem mask _ _ _ _ h with q | ⟨a, ha, q⟩
  · simp at q
  · exact ⟨a, by lia, q⟩
theorem leap_le {mask : Nat} (i p : Nat) : (leap mask i p).1 ≤ mask := by
  show (_ % (mask + 1)) ≤ mask
  exact Nat.le_of_lt_succ (Nat.mod_lt _ (Nat.succ_pos _))
theorem leaps_le {mask : Nat} : ∀ (k : Nat) (q : Nat × Nat), q.1 ≤ mask → (leaps mask k q).1 ≤ mask
  | 0, _, h => h
  | k + 1, _, _ => leaps_le k _ (leap_le _ _)
theorem leaps_all {mask : Nat} (hm : mask ∈ masks) {i p j : Nat} (hi : i ≤ mask) (hp : p < 2 ^ 64) (hj : j ≤ mask) : ∃ a, a < turns mask ∧ (leaps mask a (i, p)).1 = j := by
  have h13 : leaps mask 13 (i, p) = ((leaps mask 13 (i, p)).1, 0) := by
    apply Prod.ext
    · rfl
    · rw [leaps_perturb]; exact Nat.div_eq_of_lt (Nat.lt_of_lt_of_le hp (by decide))
  obtain ⟨a, ha, e⟩ := cyc_all hm (leaps_le 13 (i, p) hi) hj
  refine ⟨13 + a, by unfold turns; lia, ?_⟩
  rw [leaps_add, h13, leaps_cyc]; exact e
theorem bits_lt (h : Int) : bits h < 2 ^ 64 := by unfold bits; lia
theorem sub_len {α : Type} [DecidableEq α] : ∀ {a b : List α}, a.Nodup → (∀ x ∈ a, x ∈ b) → a.length ≤ b.length
  | [], _, _, _ => Nat.zero_le _
  | x :: a, b, hn, h => by
    obtain ⟨h1, h2⟩ := List.nodup_cons.mp hn
    have hx := h x (.head _)
    have ih := sub_len (a := a) (b := b.erase x) h2 fun y hy => (List.mem_erase_of_ne (fun e : y = x => h1 (by rw [← e]; exact hy))).mpr (h y (.tail _ hy))
    rw [List.length_erase_of_mem hx] at ih
    have : 0 < b.length := List.length_pos_of_mem hx
    rw [List.length_cons]; omega
theorem sub_perm {α : Type} [DecidableEq α] : ∀ {a b : List α}, a.Nodup → (∀ x ∈ a, x ∈ b) → a.length = b.length → a.Perm b
  | [], b, _, _, hl => by rw [List.eq_nil_of_length_eq_zero hl.symm]
  | x :: a, b, hn, h, hl => by
    obtain ⟨h1, h2⟩ := List.nodup_cons.mp hn
    have hx := h x (.head _)
    have ih := sub_perm (a := a) (b := b.erase x) h2 (fun y hy => (List.mem_erase_of_ne (fun e : y = x => h1 (by rw [← e]; exact hy))).mpr (h y (.tail _ hy))) (by
      rw [List.length_erase_of_mem hx, ← hl]; rfl)
    exact (ih.cons x).trans (List.perm_cons_erase hx).symm
theorem holes {l : List Nat} {m : Nat} (h : ∀ j, j ≤ m → j ∈ l) : m + 1 ≤ l.length := by
  have := sub_len (a := List.range (m + 1)) (b := l) List.nodup_range fun j hj => h j (by have := List.mem_range.mp hj; lia)
  simpa using this
theorem runEnd_ge (mask i : Nat) : i ≤ runEnd mask i ∧ runEnd mask i ≤ i + 9 ∧ (i ≤ mask → runEnd mask i ≤ mask) := by unfold runEnd; split <;> omega
end Mine
end

section
open PySem
namespace Mine
open SetTable
theorem slot_empty_of {t : SetTable} {j : Nat} (h1 : j ∉ t.place.toList) (h2 : j ∉ t.dummies.toList) : t.slot j = .empty := by
  unfold slot has
  have e1 : (t.place[below t.place j]? == some j) = false := by
    rw [beq_eq_false_iff_ne]
    intro q
    exact h1 (by rw [← Array.getElem?_toList] at q; exact List.mem_of_getElem? q)
  have e2 : (t.dummies[below t.dummies j]? == some j) = false := by
    rw [beq_eq_false_iff_ne]
    intro q
    exact h2 (by rw [← Array.getElem?_toList] at q; exact List.mem_of_getElem? q)
  simp only [e1, e2, Bool.false_eq_true, if_false]
noncomputable def fin2 (t : SetTable) (p : Probe) : Probe := { p with j := (leap t.mask p.i p.perturb).1, more := runEnd t.mask (leap t.mask p.i p.perturb).1 - (leap t.mask p.i p.perturb).1, i := (leap t.mask p.i p.perturb).1, perturb := (leap t.mask p.i p.perturb).2 }
theorem advance_more {t : SetTable} {p : Probe} (h : 0 < p.more) : t.advance p = { p with j := p.j + 1, more := p.more - 1 } := by unfold advance; rw [if_pos h]
theorem advance_leap {t : SetTable} {p : Probe} (h : p.more = 0) : t.advance p = fin2 t p := by unfold advance; rw [if_neg (by lia)]; rfl
theorem go_none {t : SetTable} {h : Int} {hs : Nat → Int} (hh : ∀ i, (hs i == h) = false) {fuel : Nat} {p : Probe} (e : probe.go t hs h (fuel + 1) p = none) :
    t.slot p.j ≠ .empty ∧ ∃ d, probe.go t hs h fuel { t.advance p with dummy := d } = none := by
  unfold probe.go at e
  cases hsl : t.slot p.j with
  | empty => rw [hsl] at e; cases e
  | dummy =>
    rw [hsl] at e
    refine ⟨by simp, some p.j, ?_⟩
    have : t.advance { p with dummy := some p.j } = { t.advance p with dummy := some p.j } := by unfold advance; split <;> rfl
    rw [← this]; exact e
  | live i =>
    rw [hsl] at e
    simp only [hh i, Bool.false_eq_true, if_false] at e
    exact ⟨by simp, (t.advance p).dummy, e⟩
theorem go_run {t : SetTable} {h : Int} {hs : Nat → Int} (hh : ∀ i, (hs i == h) = false) : ∀ (m fuel : Nat) (p : Probe), p.more = m → m + 1 ≤ fuel → probe.go t hs h fuel p = none →
    t.slot p.j ≠ .empty ∧ ∃ d, probe.go t hs h (fuel - (m + 1)) { fin2 t p with dummy := d } = none
  | 0, fuel, p, hm, hf, e => by
    obtain ⟨f, rfl⟩ : ∃ f, fuel = f + 1 := ⟨fuel - 1, by lia⟩
    obtain ⟨h1, d, h2⟩ := go_none hh e
    rw [advance_leap hm] at h2
    exact ⟨h1, d, h2⟩
  | m + 1, fuel, p, hm, hf, e => by
    obtain ⟨f, rfl⟩ : ∃ f, fuel = f + 1 := ⟨fuel - 1, by lia⟩
    obtain ⟨h1, d, h2⟩ := go_none hh e
    rw [advance_more (by lia)] at h2
    obtain ⟨_, d', h3⟩ := go_run hh m f _ (by show p.more - 1 = m; lia) (by lia) h2
    refine ⟨h1, d', ?_⟩
    rw [show f + 1 - (m + 1 + 1) = f - (m + 1) by lia]
    exact h3
theorem go_rounds {t : SetTable} {h : Int} {hs : Nat → Int} (hh : ∀ i, (hs i == h) = false) : ∀ (r fuel : Nat) (p : Probe), p.j = p.i → p.more = runEnd t.mask p.i - p.i → 10 * r ≤ fuel → probe.go t hs h fuel p = none →
    ∀ k, k < r → t.slot (leaps t.mask k (p.i, p.perturb)).1 ≠ .empty
  | 0, _, _, _, _, _, _, k, hk => absurd hk (Nat.not_lt_zero _)
  | r + 1, fuel, p, hj, hm, hf, e, k, hk => by
    have hr := runEnd_ge t.mask p.i
    obtain ⟨h1, d, h2⟩ := go_run hh (runEnd t.mask p.i - p.i) fuel p hm (by lia) e
    cases k with
    | zero => show t.slot p.i ≠ .empty; rw [← hj]; exact h1
    | succ k =>
      have := go_rounds hh r _ { fin2 t p with dummy := d } rfl rfl (by omega) h2 k (by lia)
      exact this
theorem go_some {t : SetTable} {h : Int} {hs : Nat → Int} (hh : ∀ i, (hs i == h) = false) : ∀ (fuel : Nat) (p : Probe) (m : Met), (∀ d, p.dummy = some d → t.slot d = .dummy) → probe.go t hs h fuel p = some m →
    ∃ j d, m = .empty j d ∧ t.slot j = .empty ∧ ∀ x, d = some x → t.slot x = .dummy
  | 0, _, _, _, e => by unfold probe.go at e; cases e
  | fuel + 1, p, m, hd, e => by
    have hadv : ∀ q : Probe, (t.advance q).dummy = q.dummy := fun q => by unfold advance; split <;> rfl
    unfold probe.go at e
    cases hsl : t.slot p.j with
    | empty =>
      rw [hsl] at e
      exact ⟨_, _, (Option.some.inj e).symm, hsl, hd⟩
    | dummy =>
      rw [hsl] at e
      refine go_some hh fuel _ m (fun d q => ?_) e
      rw [hadv] at q
      rw [← Option.some.inj q]; exact hsl
    | live i =>
      rw [hsl] at e
      simp only [hh i, Bool.false_eq_true, if_false] at e
      refine go_some hh fuel _ m (fun d q => ?_) e
      rw [hadv] at q
      exact hd d q
theorem free_some {t : SetTable} (hm : t.mask ∈ masks) (hf : t.fill ≤ t.mask) (h : Int) : ∃ j d, t.freeSlot h = some (j, d) ∧ (d = false ∧ t.slot j = .empty ∨ d = true ∧ t.slot j = .dummy) := by
  have hh : ∀ i : Nat, ((fun _ => h + 1) i == h) = false := fun i => by rw [beq_eq_false_iff_ne]; show h + 1 ≠ h; lia
  unfold freeSlot probe
  cases e : probe.go t (fun _ => h + 1) h (10 * turns t.mask) (t.probeStart h) with
  | none =>
    exfalso
    have R := go_rounds hh (turns t.mask) (10 * turns t.mask) (t.probeStart h) rfl rfl (Nat.le_refl _) e
    have hi : bits h % (t.mask + 1) ≤ t.mask := Nat.le_of_lt_succ (Nat.mod_lt _ (Nat.succ_pos _))
    have all : ∀ j, j ≤ t.mask → j ∈ t.place.toList ++ t.dummies.toList := fun j hj => by
      obtain ⟨a, ha, q⟩ := leaps_all hm hi (bits_lt h) hj
      have z := R a ha
      have q' : (leaps t.mask a ((t.probeStart h).i, (t.probeStart h).perturb)).1 = j := q
      rw [q'] at z
      rw [List.mem_append]
      apply Classical.byContradiction
      intro hn
      rw [not_or] at hn
      exact z (slot_empty_of hn.1 hn.2)
    have z := holes all
    rw [List.length_append, Array.length_toList, Array.length_toList] at z
    unfold fill at hf
    lia
  | some m =>
    obtain ⟨j, d, rfl, h1, h2⟩ := go_some hh _ _ _ (fun d q => by cases q) e
    cases d with
    | none => exact ⟨j, false, rfl, .inl ⟨rfl, h1⟩⟩
    | some x => exact ⟨x, true, rfl, .inr ⟨rfl, h2 x rfl⟩⟩
structure TabOK (bt : Bool) (n : Nat) (t : SetTable) : Prop where
  mask : t.mask ∈ masks
  size : t.place.size = n
  load : t.fill * 5 < t.mask * 3
  rise : Rise t.place
  plain : t.plain = true
  led : bt = false → t.led = true
theorem TabOK.fits {bt : Bool} {n : Nat} {t : SetTable} (h : TabOK bt n t) : t.fits n = true := by
  unfold SetTable.fits
  rw [h.size]
  have := h.load
  simp only [beq_self_eq_true, Bool.true_and, decide_eq_true_eq]
  lia
theorem put_ok' {bt : Bool} {n : Nat} {t : SetTable} (h : TabOK bt n t) {j : Nat} {d : Bool} (hj : d = false ∧ t.slot j = .empty ∨ d = true ∧ t.slot j = .dummy) :
    (t.put j).1.place.size = n + 1 ∧ Rise (t.put j).1.place ∧ (t.put j).1.mask = t.mask ∧ (t.put j).1.plain = true ∧ (t.put j).1.led = t.led ∧ (t.put j).1.fill ≤ t.fill + 1 ∧ (d = true → (t.put j).1.fill ≤ t.fill) := by
  have hl : t.place[below t.place j]? ≠ some j := by
    intro q
    have e : t.slot j = .live (below t.place j) := by unfold slot; simp only [q, beq_self_eq_true, if_true]
    rcases hj with ⟨_, z⟩ | ⟨_, z⟩ <;> rw [e] at z <;> cases z
  have hs : (t.put j).1.place.size = t.place.size + 1 := insert_size _ _ _
  refine ⟨by rw [hs, h.size], insert_rise h.rise hl, rfl, h.plain, rfl, ?_, fun hd => ?_⟩
  · unfold fill
    rw [hs]
    show _ + (if has t.dummies j then eraseAt t.dummies (below t.dummies j) else t.dummies).size ≤ _
    split
    · rename_i q
      have hb : below t.dummies j < t.dummies.size := by
        apply Classical.byContradiction; intro z
        unfold has at q
        rw [Array.getElem?_eq_none (by lia)] at q; simp at q
      have := erase_size t.dummies _ hb
      lia
    · lia
  · have q : has t.dummies j = true := by
      rcases hj with ⟨z, _⟩ | ⟨_, z⟩
      · rw [hd] at z; cases z
      · unfold slot at z
        dsimp only at z
        rw [if_neg (by rw [beq_iff_eq]; exact hl)] at z
        apply Classical.byContradiction; intro y
        rw [if_neg y] at z; cases z
    unfold fill
    rw [hs]
    show _ + (if has t.dummies j then eraseAt t.dummies (below t.dummies j) else t.dummies).size ≤ _
    rw [if_pos q]
    have hb : below t.dummies j < t.dummies.size := by
      apply Classical.byContradiction; intro z
      unfold has at q
      rw [Array.getElem?_eq_none (by omega)] at q; simp at q
    have := erase_size t.dummies _ hb
    lia
theorem drop_ok {bt : Bool} {n : Nat} {t : SetTable} (h : TabOK bt (n + 1) t) {i : Nat} (hi : i < n + 1) : TabOK bt n (t.drop i) := by
  have hi' : i < t.place.size := by rw [h.size]; exact hi
  have e : t.drop i = { t with place := eraseAt t.place i, dummies := insertAt t.dummies (below t.dummies t.place[i]) t.place[i] } := by
    unfold SetTable.drop; rw [Array.getElem?_eq_getElem hi']
  have h1 := erase_size t.place i hi'
  have h2 := insert_size t.dummies (below t.dummies t.place[i]) t.place[i]
  have hl := h.load
  have hs := h.size
  rw [e]
  refine ⟨h.mask, ?_, ?_, erase_rise h.rise _, h.plain, h.led⟩
  · show (eraseAt t.place i).size = n; lia
  · show ((eraseAt t.place i).size + (insertAt t.dummies (below t.dummies t.place[i]) t.place[i]).size) * 5 < _
    unfold fill at hl; rw [h2]
    have : (eraseAt t.place i).size + (t.dummies.size + 1) = t.place.size + t.dummies.size := by lia
    rw [this]; exact hl
theorem fresh_ok (bt led : Bool) (h : bt = false → led = true) : TabOK bt 0 (.fresh 0 0 led) := ⟨by show 7 ∈ masks; decide, rfl, by show 0 * 5 < 7 * 3; decide, .nil, rfl, h⟩
end Mine
end

section
open PySem
namespace Mine
open SetTable
theorem range_filterMap {α : Type} (xs : Array (Option α)) : (List.range xs.size).filterMap (fun j => xs.getD j none) = xs.toList.filterMap id := by
  have e := List.filterMap_getElem?_range_length xs.toList
  have : xs.toList.filterMap id = ((List.range xs.toList.length).filterMap (fun i => xs.toList[i]?)).filterMap id := by rw [e]
  rw [this, List.filterMap_filterMap, Array.length_toList]
  congr 1
  funext j
  rw [Array.getElem?_toList, Array.getD_eq_getD_getElem?]
  cases xs[j]? <;> rfl
theorem set_filterMap {α : Type} : ∀ (l : List (Option α)) (j : Nat) (x : α), l[j]? = some none → ((l.set j (some x)).filterMap id).Perm (x :: l.filterMap id)
  | [], j, x, h => by simp at h
  | a :: l, 0, x, h => by
    simp only [List.getElem?_cons_zero, Option.some.injEq] at h
    subst h
    simp
  | a :: l, j + 1, x, h => by
    simp only [List.getElem?_cons_succ] at h
    have ih := set_filterMap l j x h
    rw [List.set_cons_succ]
    cases a with
    | none => simpa using ih
    | some y =>
      rw [List.filterMap_cons_some (f := id) (a := some y) (b := y) rfl, List.filterMap_cons_some (f := id) (a := some y) (b := y) rfl]
      exact (ih.cons y).trans (List.Perm.swap x y _)
theorem free_none {mask : Nat} {owner : Array (Option Nat)} : ∀ (r i p : Nat), layClean.free mask owner r i p = none → i ≤ mask → ∀ k, k < r → (owner.getD (leaps mask k (i, p)).1 (some 0)).isNone = false
  | 0, _, _, _, _, k, hk => absurd hk (Nat.not_lt_zero _)
  | r + 1, i, p, h, hi, k, hk => by
    unfold layClean.free at h
    cases e : (List.range (runEnd mask i + 1 - i)).find? fun k => (owner.getD (i + k) (some 0)).isNone with
    | some k => rw [e] at h; cases h
    | none =>
      rw [e] at h
      cases k with
      | zero =>
        have hr := runEnd_ge mask i
        have := List.find?_eq_none.mp e 0 (List.mem_range.mpr (by omega))
        simp only [Nat.add_zero] at this
        show (owner.getD i (some 0)).isNone = false
        exact Bool.eq_false_iff.mpr this
      | succ k => exact free_none r _ _ h (leap_le _ _) k (by lia)
theorem free_at {mask : Nat} {owner : Array (Option Nat)} : ∀ (r i p j : Nat), layClean.free mask owner r i p = some j → owner[j]? = some none
  | 0, _, _, _, h => by unfold layClean.free at h; cases h
  | r + 1, i, p, j, h => by
    unfold layClean.free at h
    cases e : (List.range (runEnd mask i + 1 - i)).find? fun k => (owner.getD (i + k) (some 0)).isNone with
    | some k =>
      rw [e] at h
      have z := List.find?_some e
      have q : i + k = j := Option.some.inj h
      rw [q, Array.getD_eq_getD_getElem?] at z
      cases hj : owner[j]? with
      | none => rw [hj] at z; simp at z
      | some v => rw [hj] at z; cases v with
        | none => rfl
        | some v => simp at z
    | none => rw [e] at h; exact free_at r _ _ j h
structure Own (mask : Nat) (owner : Array (Option Nat)) (k : Nat) : Prop where
  size : owner.size = mask + 1
  perm : (owner.toList.filterMap id).Perm (List.range k)
theorem own_step {mask : Nat} (hm : mask ∈ masks) {owner : Array (Option Nat)} {k : Nat} (O : Own mask owner k) (hk : k ≤ mask) (h : Int) :
    ∃ j, layClean.free mask owner (turns mask) (bits h % (mask + 1)) (bits h) = some j ∧ Own mask (owner.setIfInBounds j (some k)) (k + 1) := by
  cases e : layClean.free mask owner (turns mask) (bits h % (mask + 1)) (bits h) with
  | none =>
    exfalso
    have hi : bits h % (mask + 1) ≤ mask := Nat.le_of_lt_succ (Nat.mod_lt _ (Nat.succ_pos _))
    have R := free_none _ _ _ e hi
    have hl : (owner.toList.filterMap id).length = k := by rw [O.perm.length_eq, List.length_range]
    have all : ∀ j, j ≤ mask → (owner.getD j (some 0)).isNone = false := fun j hj => by
      obtain ⟨a, ha, q⟩ := leaps_all hm hi (bits_lt h) hj
      have := R a ha
      rw [q] at this; exact this
    have hall : ∀ x ∈ owner.toList, (x : Option Nat).isSome = true := fun x hx => by
      obtain ⟨j, hj, e⟩ := List.getElem_of_mem hx
      rw [Array.length_toList, O.size] at hj
      have z := all j (by lia)
      rw [Array.getD_eq_getD_getElem?, ← Array.getElem?_toList, List.getElem?_eq_getElem (by rw [Array.length_toList, O.size]; exact hj), e] at z
      cases x with
      | none => simp at z
      | some v => rfl
    have key : ∀ l : List (Option Nat), (∀ x ∈ l, (x : Option Nat).isSome = true) → (l.filterMap id).length = l.length := fun l h => by
      induction l with
      | nil => rfl
      | cons a l ih =>
        obtain ⟨v, rfl⟩ := Option.isSome_iff_exists.mp (h a (.head _))
        rw [List.filterMap_cons_some (f := id) (a := some v) (b := v) rfl, List.length_cons, List.length_cons, ih fun x hx => h x (.tail _ hx)]
    have full := key _ hall
    rw [hl, Array.length_toList, O.size] at full
    lia
  | some j =>
    have hj := free_at _ _ _ _ e
    refine ⟨j, rfl, by rw [Array.size_setIfInBounds]; exact O.size, ?_⟩
    rw [Array.toList_setIfInBounds]
    refine (set_filterMap _ j k (by rw [Array.getElem?_toList]; exact hj)).trans ?_
    rw [List.range_succ]
    exact (O.perm.cons k).trans (List.perm_append_singleton k (List.range k)).symm
noncomputable def layStep (mask : Nat) (acc : Option (Array (Option Nat) × Nat)) (h : Int) : Option (Array (Option Nat) × Nat) := do
  let (owner, k) ← acc
  let j ← layClean.free mask owner (turns mask) (bits h % (mask + 1)) (bits h)
  pure (owner.setIfInBounds j (some k), k + 1)
theorem own_all {mask : Nat} (hm : mask ∈ masks) : ∀ (hs : List Int) (owner : Array (Option Nat)) (k : Nat), Own mask owner k → k + hs.length ≤ mask + 1 →
    ∃ owner', hs.foldl (layStep mask) (some (owner, k)) = some (owner', k + hs.length) ∧ Own mask owner' (k + hs.length)
  | [], owner, k, O, _ => ⟨owner, rfl, O⟩
  | h :: hs, owner, k, O, hk => by
    rw [List.length_cons] at hk
    obtain ⟨j, e, O'⟩ := own_step hm O (by lia) h
    obtain ⟨owner', e', O''⟩ := own_all hm hs _ _ O' (by lia)
    refine ⟨owner', ?_, ?_⟩
    · rw [List.foldl_cons]
      have : layStep mask (some (owner, k)) h = some (owner.setIfInBounds j (some k), k + 1) := by
        show (layClean.free mask owner (turns mask) (bits h % (mask + 1)) (bits h)).bind _ = _
        rw [e]; rfl
      rw [this, e', List.length_cons]
      rw [show k + 1 + hs.length = k + (hs.length + 1) by lia]
    · rw [List.length_cons, show k + (hs.length + 1) = k + 1 + hs.length by lia]; exact O''
noncomputable def liveOf (mask : Nat) (owner : Array (Option Nat)) : List (Nat × Nat) := (List.range (mask + 1)).filterMap fun j => (owner.getD j none).map (j, ·)
theorem laid_ok {mask : Nat} (hm : mask ∈ masks) (finger moves : Nat) (led plain : Bool) (hs : Array Int) (hn : hs.size ≤ mask) :
    ∃ place order, laid mask finger moves led plain hs = some ({ mask, place, dummies := #[], finger, led, moves, plain }, order) ∧ place.size = hs.size ∧ Rise place ∧ order.toList.Perm (List.range hs.size) := by
  have O0 : Own mask (Array.replicate (mask + 1) none) 0 := ⟨Array.size_replicate, by simp⟩
  obtain ⟨owner, e, O⟩ := own_all hm hs.toList _ _ O0 (by rw [Array.length_toList]; lia)
  rw [Nat.zero_add, Array.length_toList] at e O
  have ec : layClean mask hs = some owner := by
    unfold layClean
    rw [← Array.foldl_toList]
    show (hs.toList.foldl (layStep mask) (some (Array.replicate (mask + 1) none, 0))).map (·.1) = _
    rw [e]; rfl
  have hfst : ∀ (l : List Nat) (f : Nat → Option Nat), List.Sublist ((l.filterMap fun j => (f j).map (j, ·)).map (·.1)) l := fun l f => by
    induction l with
    | nil => exact .slnil
    | cons a l ih =>
      cases hf : f a with
      | none => rw [List.filterMap_cons_none (by rw [hf]; rfl)]; exact ih.cons a
      | some v => rw [List.filterMap_cons_some (b := (a, v)) (by rw [hf]; rfl), List.map_cons]; exact ih.cons_cons a
  have hsnd : ∀ (l : List Nat) (f : Nat → Option Nat), (l.filterMap fun j => (f j).map (j, ·)).map (·.2) = l.filterMap f := fun l f => by
    rw [List.map_filterMap]
    congr 1
    funext j
    cases f j <;> rfl
  have hp : ((List.range (mask + 1)).filterMap fun j => owner.getD j none).Perm (List.range hs.size) := by
    rw [← O.size, range_filterMap]; exact O.perm
  have hl : laid mask finger moves led plain hs = some ({ mask, place := ((liveOf mask owner).map (·.1)).toArray, dummies := #[], finger, led, moves, plain }, ((liveOf mask owner).map (·.2)).toArray) := by
    unfold laid
    rw [ec]; rfl
  refine ⟨_, _, hl, ?_, ?_, ?_⟩
  · rw [List.size_toArray, List.length_map]
    have : (liveOf mask owner).length = ((liveOf mask owner).map (·.2)).length := by rw [List.length_map]
    rw [this]; unfold liveOf; rw [hsnd, hp.length_eq, List.length_range]
  · unfold Rise
    rw [List.toList_toArray]
    exact List.pairwise_lt_range.sublist (hfst _ _)
  · rw [List.toList_toArray]; unfold liveOf; rw [hsnd]; exact hp
theorem sizeAbove_ok : ∀ n, n < 256 → sizeAbove n - 1 ∈ masks ∧ n < sizeAbove n ∧ sizeAbove n ≤ 256 := by decide +kernel
end Mine
end

section
open PySem
namespace Mine
open SetTable
theorem relaid_ok {bt : Bool} {n : Nat} {t : SetTable} (hp : t.plain = true) (hl : bt = false → t.led = true) {hs : Array Int} (hn : hs.size = n) {wanted : Nat} (hw : wanted < 256) (h1 : n * 5 < (sizeAbove wanted - 1) * 3) :
    ∃ t' order, t.relaid hs wanted = some (t', order) ∧ TabOK bt n t' ∧ order.toList.Perm (List.range n) := by
  obtain ⟨hm, _, _⟩ := sizeAbove_ok wanted hw
  obtain ⟨place, order, e, h2, h3, h4⟩ := laid_ok hm t.finger (t.movedTo (sizeAbove wanted - 1)) t.led t.plain hs (by lia)
  refine ⟨_, _, e, ⟨hm, by rw [← hn]; exact h2, ?_, h3, hp, hl⟩, by rw [← hn]; exact h4⟩
  show (place.size + 0) * 5 < _
  rw [h2, hn]; exact h1
theorem order_perm {es : Array (Int × Value)} {order : Array Nat} (h : order.toList.Perm (List.range es.size)) : (order.filterMap (es[·]?)).toList.Perm es.toList := by
  rw [Array.toList_filterMap]
  exact (h.filterMap _).trans (by rw [filterMap_getElem?_range])
theorem perm_size {α : Type} {a b : Array α} (h : a.toList.Perm b.toList) : a.size = b.size := by
  have := h.length_eq
  rwa [Array.length_toList, Array.length_toList] at this
theorem grown_small {n : Nat} (h : n ≤ 60) : grown n = n * 4 := by unfold grown; rw [if_neg (by lia)]
theorem relayAll_ok {bt : Bool} {t : SetTable} (hp : t.plain = true) (hl : bt = false → t.led = true) {es : Array (Int × Value)} {wanted : Nat} (hw : wanted < 256) (h1 : es.size * 5 < (sizeAbove wanted - 1) * 3) :
    ∃ es' t', relayAll t es wanted = (es', t', false) ∧ es'.toList.Perm es.toList ∧ TabOK bt es'.size t' := by
  obtain ⟨t', order, e, T, p⟩ := relaid_ok (bt := bt) hp hl (hs := es.map (·.1)) (n := es.size) (by simp) hw h1
  have hpm := order_perm p
  have hsz := perm_size hpm
  unfold relayAll
  rw [e]
  have hc : coversAll order es.size = true := List.isPerm_iff.mpr p
  have hf : t'.fits (order.filterMap (es[·]?)).size = true := by rw [hsz]; exact T.fits
  simp only [hc, hf, Bool.and_self, if_true]
  exact ⟨_, _, rfl, hpm, by rw [hsz]; exact T⟩
noncomputable def keyOf (e : Int × Value) : Int := match e.2 with | .int k _ => k | _ => 0
noncomputable def GoodE (e : Int × Value) : Prop := ∃ k t, e = (hashInt k, .int k t)
noncomputable abbrev byText (w : World) : Bool := w.params.followText "set-order"
structure SetD (w : World) (es : Array (Int × Value)) (t : SetTable) (ns : List Int) : Prop where
  good : ∀ e ∈ es.toList, GoodE e
  keys : (es.toList.map keyOf).Perm ns
  nd : ns.Nodup
  tab : TabOK (byText w) es.size t
inductive SetM (w : World) (o : Obj) (ns : List Int) : Prop where
  | mk (x : o.ExactSet) (es : Array (Int × Value)) (ep : Nat) (t : SetTable) (hd : o.data = .set es ep t) (D : SetD w es t ns)
namespace SetD
variable {w : World} {es : Array (Int × Value)} {t : SetTable} {ns ms : List Int}
theorem size (h : SetD w es t ns) : es.size = ns.length := by
  have := h.keys.length_eq
  rwa [List.length_map, Array.length_toList] at this
theorem fits (h : SetD w es t ns) : t.fits es.size = true := h.tab.fits
theorem elems {prog : Program} (h : SetD w es t ns) : ElemsOf (intKind prog w) es.toList := fun e he => by
  obtain ⟨k, tk, rfl⟩ := h.good e he
  exact ⟨⟨k, by simp [intKind, Value.isInt], rfl⟩, rfl⟩
theorem perm (h : SetD w es t ns) (p : ns.Perm ms) : SetD w es t ms := ⟨h.good, h.keys.trans p, p.nodup_iff.mp h.nd, h.tab⟩
theorem ext (h : SetD w es t ns) (hn : ms.Nodup) (hm : ∀ k, k ∈ ns ↔ k ∈ ms) : SetD w es t ms := by
  refine h.perm ?_
  have l1 := sub_len h.nd fun x hx => (hm x).mp hx
  have l2 := sub_len hn fun x hx => (hm x).mpr hx
  exact sub_perm h.nd (fun x hx => (hm x).mp hx) (by lia)
theorem mem {prog : Program} (h : SetD w es t ns) (k : Int) : k ∈ ns ↔ ∃ e ∈ es.toList, (intKind prog w).is k e.2 = true := by
  rw [← h.keys.mem_iff, List.mem_map]
  constructor
  · rintro ⟨e, he, rfl⟩
    obtain ⟨k, tk, rfl⟩ := h.good e he
    exact ⟨_, he, by simp [intKind, Value.isInt, keyOf]⟩
  · rintro ⟨e, he, hk⟩
    obtain ⟨k', tk, rfl⟩ := h.good e he
    refine ⟨_, he, ?_⟩
    simpa [intKind, Value.isInt, keyOf] using hk
end SetD
namespace SetM
variable {w : World} {o : Obj} {ns ms : List Int}
theorem ext (h : SetM w o ns) (hn : ms.Nodup) (hm : ∀ k, k ∈ ns ↔ k ∈ ms) : SetM w o ms := let ⟨x, es, ep, t, hd, D⟩ := h; ⟨x, es, ep, t, hd, D.ext hn hm⟩
theorem nd (h : SetM w o ns) : ns.Nodup := let ⟨_, _, _, _, _, D⟩ := h; D.nd
theorem setOf {prog : Program} {h : Heap} {a : Addr} (hS : SetM w o ns) (ho : h.get? a = some o) (hz : ns.length ≤ 60) : h.SetOf (intKind prog w) a (fun k => decide (k ∈ ns)) ns.length := by
  obtain ⟨x, es, ep, t, hd, D⟩ := hS
  have := D.size
  exact ⟨o, es, ep, t, ho, x, hd, D.elems, fun k => by rw [decide_eq_true_eq]; exact D.mem k, by rw [this]; show _ < 4096; lia, D.fits, this⟩
end SetM
section
variable {prog : Program} {w : World} {A : Around} {E : Value → Shared → Prop} {s : Shared}
theorem st_put {a : Addr} {o : Obj} {es : Array (Int × Value)} {ep : Nat} {t : SetTable} {ns : List Int} (ho : s.heap.get? a = some o) (hx : o.ExactSet) (hd : o.data = .set es ep t) {es' : Array (Int × Value)} {t' : SetTable} (D : SetD w es' t' ns) (hz : ns.length ≤ 100) {Q : Unit → Shared → Prop}
    (h : ∀ h' o', Heap.SameBut a s.heap h' → h'.get? a = some o' → o'.ExactSet → o'.data = .set es' (ep + 1) t' → Q () { s with heap := h' }) : wpAny (model prog w) A (storeSet a es' t') Q E s := by
  refine wpAny_storeSet_of ho hd (h _ { o with data := .set es' (ep + 1) t' } (Heap.SameBut.update ..) ?_ hx rfl) (by rw [D.size, sizeLine_eq]; lia)
  have := Heap.get?_update_self (Obj.putSet es' t') ho (by rw [putSet_of es' t' hd]; rfl)
  rw [putSet_of es' t' hd] at this; exact this
theorem set_add {a : Addr} {o : Obj} {ns : List Int} {k : Int} {tk : Tok} {Q : Bool → Shared → Prop} (ho : s.heap.get? a = some o) (hS : SetM w o ns) (hz : ns.length ≤ 59)
    (h : ∀ h' o' b, Heap.SameBut a s.heap h' → h'.get? a = some o' → SetM w o' (if k ∈ ns then ns else k :: ns) → Q b { s with heap := h' }) :
    wpAny (model prog w) A (setAddHashed a (.int k tk) (hashInt k)) Q E s := by
  obtain ⟨hx, es, ep, t, hd, D⟩ := hS
  have hel := D.elems (prog := prog)
  have hsz := D.size
  have hb : es.size < scanBound := by rw [hsz]; show _ < 4096; lia
  have hkey : (intKind prog w).is k (.int k tk) = true := by simp [intKind, Value.isInt]
  unfold setAddHashed setAddHashedIn
  refine wpAny_holding (wpAny_bind (wpAny_setState_of ho hd D.fits ?_))
  dsimp only
  rw [byScan_of (knd := intKind prog w) rfl hb hel]
  simp only [↓reduceIte]
  unfold setAddByScan
  refine wpAny_bind ?_
  refine wpAny_bind (wpAny_rule ?_)
  refine wpAny_bind (wpAny_setScan_of (knd := intKind prog w) hkey ho hd D.fits hel ?_)
  have hmem := D.mem (prog := prog) k
  cases hr : List.findIdx? (fun e => (intKind prog w).is k e.2) es.toList with
  | some j =>
    dsimp only
    obtain ⟨hj, hpj, _⟩ := List.findIdx?_eq_some_iff_getElem.mp hr
    have hk : k ∈ ns := hmem.mpr ⟨es.toList[j], List.getElem_mem hj, hpj⟩
    refine wpAny_pure (wpAny_pure ?_)
    have := h s.heap o false (Heap.SameBut.refl a s.heap) ho ⟨hx, es, ep, t, hd, by rw [if_pos hk]; exact D⟩
    exact this
  | none =>
    dsimp only
    have hk : k ∉ ns := fun q => by
      obtain ⟨e, he, hp⟩ := hmem.mp q
      have := List.findIdx?_eq_none_iff.mp hr e he
      rw [hp] at this; exact Bool.noConfusion this
    have hT := D.tab
    have hl := hT.load
    have hm7 : 7 ≤ t.mask := by have := hT.mask; simp [masks] at this; lia
    obtain ⟨j, d, e, hj⟩ := free_some hT.mask (by lia) (hashInt k)
    obtain ⟨p1, p2, p3, p4, p5, p6, p7⟩ := put_ok' hT hj
    have hins := insert_size es (t.put j).2 (hashInt k, Value.int k tk)
    have hfit : (t.put j).1.fits (SetTable.insertAt es (t.put j).2 (hashInt k, Value.int k tk)).size = true := by
      unfold SetTable.fits
      rw [hins, p1, p3]
      simp only [beq_self_eq_true, Bool.true_and, decide_eq_true_eq]
      lia
    have eL : layNew t es (hashInt k) (.int k tk) = (SetTable.insertAt es (t.put j).2 (hashInt k, Value.int k tk), (t.put j).1, d, false) := by
      unfold layNew
      rw [e]
      dsimp only
      unfold SetTable.orStandIn
      rw [hfit]; rfl
    have pe : (SetTable.insertAt es (t.put j).2 (hashInt k, Value.int k tk)).toList.Perm (es.toList ++ [(hashInt k, Value.int k tk)]) := by
      have := SetTable.insertAt_perm es (t.put j).2 (hashInt k, Value.int k tk)
      rwa [Array.toList_push] at this
    rw [if_neg hk] at h
    rw [eL]
    dsimp only
    generalize SetTable.insertAt es (t.put j).2 (hashInt k, Value.int k tk) = es1 at hins hfit pe ⊢
    generalize (t.put j).1 = t1 at p1 p2 p3 p4 p5 p6 p7 hfit ⊢
    have good1 : ∀ e ∈ es1.toList, GoodE e := fun e he => by
      rcases List.mem_append.mp (pe.mem_iff.mp he) with q | q
      · exact D.good e q
      · rw [List.mem_singleton] at q; exact ⟨k, tk, q⟩
    have keys1 : (es1.toList.map keyOf).Perm (k :: ns) := by
      refine (pe.map keyOf).trans ?_
      rw [List.map_append]
      exact (List.perm_append_singleton k _).trans (D.keys.cons k)
    have nd1 : (k :: ns).Nodup := List.nodup_cons.mpr ⟨hk, D.nd⟩
    have n1 : es1.size = ns.length + 1 := by rw [hins, hsz]
    refine wpAny_bind (wpAny_pure ?_)
    simp only [p4, if_true]
    refine wpAny_bind ?_
    rw [hashByValue_scannable 8 rfl]
    refine wpAny_pure ?_
    simp only [plainKind, if_true]
    refine wpAny_bind (wpAny_storeSet_of ho hd ?_ (by rw [n1, sizeLine_eq]; lia))
    have sb1 := Heap.SameBut.update s.heap a (Obj.putSet es1 t1)
    have ho1 := Heap.get?_update_self (Obj.putSet es1 t1) ho (by rw [putSet_of es1 t1 hd]; rfl)
    rw [putSet_of es1 t1 hd] at ho1
    have led1 : byText w = false → t1.led = true := fun q => by rw [p5]; exact hT.led q
    by_cases full : (!d && t1.tooFull) = true
    · rw [if_pos full]
      obtain ⟨es2, t2, e2, pe2, T2⟩ := relayAll_ok (bt := byText w) p4 led1 (es := es1) (wanted := grown es1.size) (by rw [grown_small (by lia)]; lia)
        (by have := (sizeAbove_ok (grown es1.size) (by rw [grown_small (by omega)]; omega)).2.1; rw [grown_small (by omega)] at this ⊢; lia)
      rw [e2]
      dsimp only
      have hs2 := perm_size pe2
      refine wpAny_bind (wpAny_pure ?_)
      refine wpAny_bind (wpAny_storeSet_of (es := es1) (ep := ep + 1) (t := t1) ho1 rfl ?_ (by rw [hs2, n1, sizeLine_eq]; lia))
      have ho2 := Heap.get?_update_self (Obj.putSet es2 t2) ho1 (by rw [putSet_of es2 t2 rfl]; rfl)
      rw [putSet_of (es := es1) (ep := ep + 1) (t := t1) es2 t2 rfl] at ho2
      refine wpAny_pure (wpAny_pure (h _ _ true (sb1.trans (Heap.SameBut.update _ a _)) ho2 ⟨hx, es2, _, t2, rfl, fun e he => good1 e (pe2.mem_iff.mp he), (pe2.map keyOf).trans keys1, nd1, T2⟩))
    · rw [if_neg full]
      refine wpAny_pure (wpAny_pure (h _ _ true sb1 ho1 ⟨hx, es1, _, t1, rfl, good1, keys1, nd1, by rw [p3]; exact hT.mask, by lia, ?_, p2, p4, led1⟩))
      rw [p3]
      cases d with
      | true => have := p7 rfl; lia
      | false =>
        unfold SetTable.tooFull at full
        simp only [Bool.not_false, Bool.true_and, decide_eq_true_eq, ge_iff_le, p3] at full
        lia
end
end Mine
end

section
open PySem
namespace Mine
open SetTable
theorem idx_perm {α : Type} {l : List α} {i : Nat} (h : i < l.length) : (l[i] :: l.eraseIdx i).Perm l := by
  rw [List.eraseIdx_eq_take_drop_succ]
  refine List.perm_middle.symm.trans ?_
  rw [List.getElem_cons_drop, List.take_append_drop]
theorem pick_go {α : Type} (next : Nat → Nat) : ∀ (fuel k : Nat) (left : List α) (out : Array α), left.length ≤ fuel → (pickOrder.go next fuel k left out).toList.Perm (out.toList ++ left)
  | 0, k, left, out, h => by
    have : left = [] := List.eq_nil_of_length_eq_zero (by lia)
    subst this
    unfold pickOrder.go; simp
  | fuel + 1, k, left, out, h => by
    unfold pickOrder.go
    cases hl : left[next k % left.length]? with
    | none =>
      have : left = [] := by
        apply Classical.byContradiction
        intro q
        have hp : 0 < left.length := List.length_pos_iff.mpr q
        have := Nat.mod_lt (next k) hp
        rw [List.getElem?_eq_getElem this] at hl; cases hl
      subst this
      simp
    | some x =>
      dsimp only
      obtain ⟨hi, e⟩ := List.getElem?_eq_some_iff.mp hl
      refine (pick_go next fuel (k + 1) _ _ (by rw [List.length_eraseIdx]; rw [if_pos hi]; lia)).trans ?_
      rw [Array.toList_push, List.append_assoc]
      refine List.Perm.append_left _ ?_
      have := idx_perm hi
      rw [e] at this
      exact this
theorem pick_perm {α : Type} (next : Nat → Nat) (xs : Array α) : (pickOrder next xs).toList.Perm xs.toList := by
  have := pick_go next xs.size 0 xs.toList #[] (by rw [Array.length_toList]; exact Nat.le_refl _)
  simpa [pickOrder] using this
theorem masks_ge {m : Nat} (h : m ∈ masks) : 7 ≤ m := by simp [masks] at h; lia
section
variable {prog : Program} {w : World} {A : Around} {E : Value → Shared → Prop} {s : Shared}
theorem set_byText {Q : Bool → Shared → Prop} (h : Q (byText w) s) : wpAny (model prog w) A setsByText Q E s := by
  unfold setsByText; exact wpAny_bind (wpAny_askSetting (wpAny_pure h))
theorem set_new {Q : Value → Shared → Prop}
    (h : ∀ o, SetM w o [] → o.isFreed = false → Q (.ref s.heap.objs.size) { s with heap := s.heap.push o }) :
    wpAny (model prog w) A (newSet (.type "set")) Q E s := by
  unfold newSet
  refine wpAny_bind (set_byText ?_)
  dsimp only
  simp only [newObj]
  refine wpAny_bind (wpAny_alloc (wpAny_pure (h _ ⟨⟨rfl, rfl, rfl⟩, #[], 0, _, rfl, fun e he => by simp at he, .nil, List.nodup_nil, fresh_ok _ _ fun q => ?_⟩ rfl)))
  show (!byText w) = true
  rw [q]; rfl
theorem set_walk {a : Addr} {o : Obj} {es : Array (Int × Value)} {ep : Nat} {t : SetTable} {ns : List Int} {Q : Array (Int × Value) → Shared → Prop} (ho : s.heap.get? a = some o) (hd : o.data = .set es ep t) (D : SetD w es t ns)
    (h : ∀ es', es'.toList.Perm es.toList → Q es' s) : wpAny (model prog w) A (setWalk a) Q E s := by
  unfold setWalk
  refine wpAny_bind (wpAny_setState_of ho hd D.fits ?_)
  dsimp only
  refine wpAny_bind (set_byText ?_)
  cases hb : byText w with
  | true =>
    simp only [if_true]
    exact wpAny_bind (wpAny_askSetting (wpAny_pure (h _ (pick_perm _ _))))
  | false =>
    simp only [Bool.false_eq_true, if_false]
    have hp : (!t.plain && decide (es.size > 1)) = false := by rw [D.tab.plain]; rfl
    have hl : (!t.led && decide (es.size > 1)) = false := by rw [D.tab.led hb]; rfl
    show wpAny _ _ (if (!t.plain && decide (es.size > 1)) = true then _ else _) _ _ _
    rw [if_neg (by rw [hp]; decide)]
    refine wpAny_bind (m := if (!t.led && decide (es.size > 1)) = true then unsupported "set:maker-not-led" else pure ()) ?_
    rw [if_neg (by rw [hl]; decide)]
    exact wpAny_pure (wpAny_pure (h _ .rfl))
theorem set_walkU {a : Addr} {o : Obj} {es : Array (Int × Value)} {ep : Nat} {t : SetTable} {ns : List Int} {others : List Addr} {f : Option Addr} {Q : Array (Int × Value) → Shared → Prop} (ho : s.heap.get? a = some o) (hd : o.data = .set es ep t) (D : SetD w es t ns)
    (h : ∀ es', es'.toList.Perm es.toList → Q es' s) : wpAny (model prog w) A (setWalkUnseen a others f) Q E s := by
  unfold setWalkUnseen
  refine wpAny_bind (wpAny_setState_of ho hd D.fits ?_)
  dsimp only
  refine wpAny_bind (set_byText ?_)
  have hc : (byText w || t.led && t.plain || decide (es.size ≤ 1)) = true := by
    cases hb : byText w with
    | true => rfl
    | false => rw [D.tab.plain, D.tab.led hb]; rfl
  rw [if_pos hc]
  exact set_walk ho hd D h
theorem set_find {a : Addr} {o : Obj} {es : Array (Int × Value)} {ep : Nat} {t : SetTable} {ns : List Int} {k : Int} {tk : Tok} {Q : Option Nat → Shared → Prop} (ho : s.heap.get? a = some o) (hd : o.data = .set es ep t) (D : SetD w es t ns) (hz : ns.length ≤ 60)
    (h1 : k ∉ ns → Q none s) (h2 : ∀ j (hj : j < es.toList.length), k ∈ ns → keyOf es.toList[j] = k → Q (some j) s) : wpAny (model prog w) A (setFind a (.int k tk) (hashInt k)) Q E s := by
  have hel := D.elems (prog := prog)
  have hsz := D.size
  have hb : es.size < scanBound := by rw [hsz]; show _ < 4096; lia
  have hkey : (intKind prog w).is k (.int k tk) = true := by simp [intKind, Value.isInt]
  unfold setFind setFindIn
  refine wpAny_bind (wpAny_setState_of ho hd D.fits ?_)
  dsimp only
  rw [byScan_of (knd := intKind prog w) rfl hb hel]
  simp only [↓reduceIte]
  refine wpAny_bind (wpAny_rule ?_)
  refine wpAny_bind (wpAny_setScan_of (knd := intKind prog w) hkey ho hd D.fits hel ?_)
  have hmem := D.mem (prog := prog) k
  cases hr : List.findIdx? (fun e => (intKind prog w).is k e.2) es.toList with
  | some j =>
    dsimp only
    obtain ⟨hj, hpj, _⟩ := List.findIdx?_eq_some_iff_getElem.mp hr
    refine wpAny_pure ?_
    rw [Nat.zero_add]
    refine h2 j hj (hmem.mpr ⟨es.toList[j], List.getElem_mem hj, hpj⟩) ?_
    obtain ⟨k', t', e⟩ := D.good es.toList[j] (List.getElem_mem hj)
    rw [e] at hpj ⊢
    simpa [intKind, Value.isInt, keyOf] using hpj
  | none =>
    dsimp only
    refine wpAny_pure (h1 fun q => ?_)
    obtain ⟨e, he, hp⟩ := hmem.mp q
    have := List.findIdx?_eq_none_iff.mp hr e he
    rw [hp] at this; exact Bool.noConfusion this
theorem erase_keys {es : Array (Int × Value)} {j : Nat} (hj : j < es.toList.length) {ns : List Int} (p : (es.toList.map keyOf).Perm ns) (hn : ns.Nodup) : ((eraseAt es j).toList.map keyOf).Perm (ns.erase (keyOf es.toList[j])) := by
  rw [erase_list]
  have e1 := (idx_perm hj).map keyOf
  rw [List.map_cons] at e1
  have e2 := e1.trans p
  have e3 : (keyOf es.toList[j] :: ns.erase (keyOf es.toList[j])).Perm ns := (List.perm_cons_erase (p.mem_iff.mp (List.mem_map.mpr ⟨_, List.getElem_mem hj, rfl⟩))).symm
  exact (e2.trans e3.symm).cons_inv
theorem set_discard {a : Addr} {o : Obj} {ns : List Int} {k : Int} {tk : Tok} {Q : Bool → Shared → Prop} (ho : s.heap.get? a = some o) (hS : SetM w o ns) (hz : ns.length ≤ 60)
    (h : ∀ h' o' b, Heap.SameBut a s.heap h' → h'.get? a = some o' → SetM w o' (ns.erase k) → Q b { s with heap := h' }) :
    wpAny (model prog w) A (setDiscardHashed a (.int k tk) (hashInt k)) Q E s := by
  obtain ⟨hx, es, ep, t, hd, D⟩ := hS
  unfold setDiscardHashed
  refine wpAny_bind (set_find ho hd D hz (fun q => ?_) fun j hj hk e => ?_)
  · refine wpAny_pure ?_
    have := h s.heap o false (Heap.SameBut.refl a s.heap) ho ⟨hx, es, ep, t, hd, by rw [List.erase_of_not_mem q]; exact D⟩
    exact this
  · dsimp only
    refine wpAny_bind (wpAny_setState_of ho hd D.fits ?_)
    dsimp only
    have hj' : j < es.size := by rwa [Array.length_toList] at hj
    have hsz := D.size
    obtain ⟨n, hn⟩ : ∃ n, es.size = n + 1 := ⟨es.size - 1, by lia⟩
    have he := erase_size es j hj'
    have hT := D.tab
    rw [hn] at hT
    have T := drop_ok hT (i := j) (by lia)
    have D' : SetD w (eraseAt es j) (t.drop j) (ns.erase k) := by
      refine ⟨fun x hx => D.good x ?_, ?_, D.nd.sublist (List.erase_sublist), by rw [show (eraseAt es j).size = n by lia]; exact T⟩
      · rw [erase_list] at hx; exact (List.eraseIdx_sublist ..).subset hx
      · rw [← e]; exact erase_keys hj D.keys D.nd
    refine wpAny_bind (st_put ho hx hd D' (by have := List.length_erase_le (a := k) (l := ns); lia) fun h' o' hs ho' hx' hd' => ?_)
    refine wpAny_bind (wpAny_point (wpAny_pure (h h' o' true hs ho' ⟨hx', _, _, _, hd', D'⟩)))
theorem set_relay {a : Addr} {o : Obj} {es : Array (Int × Value)} {ep : Nat} {t : SetTable} {ns : List Int} {wanted : Nat} {Q : Unit → Shared → Prop} (ho : s.heap.get? a = some o) (hx : o.ExactSet) (hd : o.data = .set es ep t) (D : SetD w es t ns) (hz : ns.length ≤ 60)
    (hw : wanted < 256) (h1 : es.size * 5 < (sizeAbove wanted - 1) * 3)
    (h : ∀ h' o' es' ep' t', Heap.SameBut a s.heap h' → h'.get? a = some o' → o'.ExactSet → o'.data = .set es' ep' t' → SetD w es' t' ns → t'.mask = sizeAbove wanted - 1 → t'.fill = es'.size → Q () { s with heap := h' }) :
    wpAny (model prog w) A (setRelay a wanted) Q E s := by
  unfold setRelay
  refine wpAny_bind (wpAny_setState_of ho hd D.fits ?_)
  dsimp only
  have hs := sizeAbove_ok wanted hw
  rw [if_neg (by rw [sizeLine_eq]; lia)]
  obtain ⟨place, order, e, q1, q2, q3⟩ := laid_ok hs.1 t.finger (t.movedTo (sizeAbove wanted - 1)) t.led t.plain (es.map (·.1)) (by simp; lia)
  have e' : t.relaid (es.map (·.1)) wanted = _ := e
  rw [e']
  rw [Array.size_map] at q1 q3
  have hp := order_perm q3
  have hsz := perm_size hp
  refine wpAny_bind ?_
  wp_delta
  rw [if_neg (by simp [hsz])]
  refine wpAny_pure ?_
  dsimp only
  have D' : SetD w (order.filterMap (es[·]?)) { mask := sizeAbove wanted - 1, place, dummies := #[], finger := t.finger, led := t.led, moves := t.movedTo (sizeAbove wanted - 1), plain := t.plain } ns :=
    ⟨fun x hx => D.good x (hp.mem_iff.mp hx), (hp.map keyOf).trans D.keys, D.nd, hs.1, by rw [hsz]; exact q1, by show (place.size + 0) * 5 < _; rw [q1]; exact h1, q2, D.tab.plain, D.tab.led⟩
  refine st_put ho hx hd D' (by lia) fun h' o' hs ho' hx' hd' => h h' o' _ _ _ hs ho' hx' hd' D' rfl ?_
  show place.size + 0 = _
  rw [q1, hsz]; rfl
end
end Mine
end

section
open PySem
namespace Mine
open SetTable
section
variable {prog : Program} {w : World} {A : Around} {E : Value → Shared → Prop} {s : Shared}
theorem set_room {a : Addr} {o : Obj} {es : Array (Int × Value)} {ep : Nat} {t : SetTable} {ns : List Int} {more : Nat} {Q : Unit → Shared → Prop} (ho : s.heap.get? a = some o) (hx : o.ExactSet) (hd : o.data = .set es ep t) (D : SetD w es t ns) (hz : ns.length ≤ 60) (hm : more ≤ 60)
    (h : ∀ h' o' es' ep' t', Heap.SameBut a s.heap h' → h'.get? a = some o' → o'.ExactSet → o'.data = .set es' ep' t' → SetD w es' t' ns → (t'.fill + more) * 5 < t'.mask * 3 → Q () { s with heap := h' }) :
    wpAny (model prog w) A (setRoomFor a more) Q E s := by
  unfold setRoomFor
  refine wpAny_bind (wpAny_setState_of ho hd D.fits ?_)
  dsimp only
  have hsz := D.size
  have hps := D.tab.size
  unfold SetTable.roomFor
  by_cases hc : (t.fill + more) * 5 ≥ t.mask * 3
  · rw [if_pos hc]
    dsimp only
    have hs := sizeAbove_ok ((t.place.size + more) * 2) (by lia)
    have h7 := masks_ge hs.1
    refine set_relay ho hx hd D hz (by omega) (by omega) fun h' o' es' ep' t' g1 g2 g3 g4 g5 g6 g7 => ?_
    refine h h' o' es' ep' t' g1 g2 g3 g4 g5 ?_
    have := g5.size
    rw [g7, g6]; lia
  · rw [if_neg hc]
    dsimp only
    have := h s.heap o es ep t (Heap.SameBut.refl a s.heap) ho hx hd D (by lia)
    exact wpAny_pure this
theorem set_tidy {a : Addr} {o : Obj} {ns : List Int} {Q : Unit → Shared → Prop} (ho : s.heap.get? a = some o) (hS : SetM w o ns) (hz : ns.length ≤ 60)
    (h : ∀ h' o', Heap.SameBut a s.heap h' → h'.get? a = some o' → SetM w o' ns → Q () { s with heap := h' }) : wpAny (model prog w) A (setTidy a) Q E s := by
  obtain ⟨hx, es, ep, t, hd, D⟩ := id hS
  unfold setTidy
  refine wpAny_bind (wpAny_setState_of ho hd D.fits ?_)
  dsimp only
  have hsz := D.size
  by_cases hc : t.tooManyDummies = true
  · rw [if_pos hc]
    have hg := grown_small (n := es.size) (by lia)
    have hs := sizeAbove_ok (grown es.size) (by lia)
    have h7 := masks_ge hs.1
    refine set_relay ho hx hd D hz (by lia) (by omega) fun h' o' es' ep' t' g1 g2 g3 g4 g5 _ _ => h h' o' g1 g2 ⟨g3, _, _, _, g4, g5⟩
  · rw [if_neg hc]
    have := h s.heap o (Heap.SameBut.refl a s.heap) ho hS
    exact wpAny_pure this
theorem same_get {a b : Addr} {h h' : Heap} {o : Obj} (hs : Heap.SameBut a h h') (hne : b ≠ a) (ho : h.get? b = some o) : h'.get? b = some o := (hs.2 b hne).trans ho
theorem set_merge {r a : Addr} {oR oA : Obj} {ns ms U : List Int} {each : Sem Unit} {Q : Unit → Shared → Prop} (hne : r ≠ a) (hr : s.heap.get? r = some oR) (SR : SetM w oR ns) (ha : s.heap.get? a = some oA) (SA : SetM w oA ms)
    (hU : ∀ k, k ∈ ns ∨ k ∈ ms → k ∈ U) (hz : U.length ≤ 58) (he : ∀ (s' : Shared) (P : Unit → Shared → Prop), s'.heap.get? a = some oA → P () s' → wpAny (model prog w) A each P E s')
    (h : ∀ h' o' vs, Heap.SameBut r s.heap h' → h'.get? r = some o' → SetM w o' vs → (∀ k, k ∈ vs ↔ k ∈ ns ∨ k ∈ ms) → Q () { s with heap := h' }) : wpAny (model prog w) A (setMerge r a each) Q E s := by
  obtain ⟨hxR, esR, epR, tR, hdR, DR⟩ := id SR
  obtain ⟨hxA, esA, epA, tA, hdA, DA⟩ := id SA
  have lR := sub_len DR.nd fun k hk => hU k (.inl hk)
  have lA := sub_len DA.nd fun k hk => hU k (.inr hk)
  have szR := DR.size
  have szA := DA.size
  unfold setMerge
  rw [if_neg (by rw [beq_iff_eq]; exact hne)]
  refine wpAny_bind (wpAny_setState_of ha hdA DA.fits ?_)
  dsimp only
  by_cases hem : esA.isEmpty = true
  · rw [if_pos hem]
    have : ms = [] := by
      rw [Array.isEmpty_iff_size_eq_zero] at hem
      exact List.eq_nil_of_length_eq_zero (by lia)
    have := h s.heap oR ns (Heap.SameBut.refl r s.heap) hr SR fun k => by rw [this]; simp
    exact wpAny_pure this
  rw [if_neg hem]
  refine wpAny_bind (set_room hr hxR hdR DR (by lia) (by lia) fun h1 o1 es1 ep1 t1 sb1 g1 g2 g3 D1 ld => ?_)
  have ha1 := same_get sb1 (Ne.symm hne) ha
  have sz1 := D1.size
  refine wpAny_bind (wpAny_setState_of (s := { s with heap := h1 }) g1 g3 D1.fits ?_)
  dsimp only
  have hroad : t1.road tA = (if t1.fill != 0 then .oneByOne else if t1.mask == tA.mask && tA.dummies.isEmpty then .slotForSlot else .clean) := rfl
  have emp : t1.fill = 0 → ns = [] := fun q => by
    have := D1.tab.size
    unfold fill at q
    exact List.eq_nil_of_length_eq_zero (by lia)
  cases hrd : t1.road tA with
  | slotForSlot =>
    dsimp only
    have hf : t1.fill = 0 := by
      rw [hroad] at hrd
      apply Classical.byContradiction
      intro q
      rw [if_pos (by simpa using q)] at hrd; cases hrd
    have hns := emp hf
    have D' : SetD w esA { tA with finger := t1.finger, led := t1.led && tA.led, moves := t1.moves, plain := t1.plain && tA.plain } ms :=
      ⟨DA.good, DA.keys, DA.nd, DA.tab.mask, DA.tab.size, DA.tab.load, DA.tab.rise, by show (t1.plain && tA.plain) = true; rw [D1.tab.plain, DA.tab.plain]; rfl, fun q => by show (t1.led && tA.led) = true; rw [D1.tab.led q, DA.tab.led q]; rfl⟩
    refine st_put (s := { s with heap := h1 }) g1 g2 g3 D' (by lia) fun h' o' hs ho' hx' hd' => ?_
    exact h h' o' ms (sb1.trans hs) ho' ⟨hx', _, _, _, hd', D'⟩ fun k => by rw [hns]; simp
  | clean =>
    dsimp only
    have hf : t1.fill = 0 := by
      rw [hroad] at hrd
      apply Classical.byContradiction
      intro q
      rw [if_pos (by simpa using q)] at hrd; cases hrd
    have hns := emp hf
    obtain ⟨place, order, e, q1, q2, q3⟩ := laid_ok D1.tab.mask t1.finger t1.moves (t1.led && tA.led) (t1.plain && tA.plain) (esA.map (·.1)) (by rw [Array.size_map]; lia)
    rw [e]
    rw [Array.size_map] at q1 q3
    have hp := order_perm q3
    have hsz := perm_size hp
    refine wpAny_bind ?_
    wp_delta
    rw [if_neg (by simp [hsz])]
    refine wpAny_pure ?_
    dsimp only
    have D' : SetD w (order.filterMap (esA[·]?)) { mask := t1.mask, place, dummies := #[], finger := t1.finger, led := t1.led && tA.led, moves := t1.moves, plain := t1.plain && tA.plain } ms :=
      ⟨fun x hx => DA.good x (hp.mem_iff.mp hx), (hp.map keyOf).trans DA.keys, DA.nd, D1.tab.mask, by rw [hsz]; exact q1, by show (place.size + 0) * 5 < t1.mask * 3; lia, q2, by show (t1.plain && tA.plain) = true; rw [D1.tab.plain, DA.tab.plain]; rfl, fun q => by show (t1.led && tA.led) = true; rw [D1.tab.led q, DA.tab.led q]; rfl⟩
    refine st_put (s := { s with heap := h1 }) g1 g2 g3 D' (by lia) fun h' o' hs ho' hx' hd' => ?_
    exact h h' o' ms (sb1.trans hs) ho' ⟨hx', _, _, _, hd', D'⟩ fun k => by rw [hns]; simp
  | oneByOne =>
    dsimp only
    refine wpAny_bind (set_walkU (s := { s with heap := h1 }) ha1 hdA DA fun esW pW => ?_)
    refine wpAny_bind (wpAny_forIn_array' _ (fun rest (_ : PUnit) s' => ∃ done h' o' vs, done ++ rest = esW.toList ∧ s' = { s with heap := h' } ∧ Heap.SameBut r s.heap h' ∧ h'.get? r = some o' ∧ SetM w o' vs ∧ ∀ k, k ∈ vs ↔ k ∈ ns ∨ k ∈ done.map keyOf) _ ?_ ?_ esW ⟨⟩ ?_)
    · rintro x rest _ s' ⟨done, h', o', vs, hdn, rfl, sb, go, SM, hm⟩
      have hxm : x ∈ esW.toList := by rw [← hdn]; exact List.mem_append_right _ (.head _)
      obtain ⟨k, tk, rfl⟩ := DA.good x (pW.mem_iff.mp hxm)
      have hkm : k ∈ ms := DA.keys.mem_iff.mp (List.mem_map.mpr ⟨_, pW.mem_iff.mp hxm, rfl⟩)
      have hvU : ∀ k, k ∈ vs → k ∈ U := fun k hk => by
        rcases (hm k).mp hk with q | q
        · exact hU k (.inl q)
        · obtain ⟨e, he, rfl⟩ := List.mem_map.mp q
          exact hU _ (.inr (DA.keys.mem_iff.mp (List.mem_map.mpr ⟨e, pW.mem_iff.mp (by rw [← hdn]; exact List.mem_append_left _ he), rfl⟩)))
      have hvl := sub_len SM.nd hvU
      dsimp only
      refine wpAny_bind (wpAny_holding (set_add (s := { s with heap := h' }) go SM (by lia) fun h2 o2 b sb2 go2 SM2 => ?_))
      have ha2 := same_get sb2 (Ne.symm hne) (same_get sb (Ne.symm hne) ha)
      refine wpAny_bind (he _ _ ha2 ?_)
      refine wpAny_bind (wpAny_setState_of (s := { s with heap := h2 }) ha2 hdA DA.fits ?_)
      dsimp only
      rw [if_neg (by simp)]
      refine wpAny_pure ⟨done ++ [(hashInt k, .int k tk)], h2, o2, _, by rw [List.append_assoc]; exact hdn, rfl, sb.trans sb2, go2, SM2, fun j => ?_⟩
      rw [List.map_append, List.mem_append]
      have e1 : List.map keyOf [(hashInt k, Value.int k tk)] = [k] := rfl
      rw [e1, List.mem_singleton]
      split
      · rename_i q
        rw [hm j]
        constructor
        · rintro (z | z); exact .inl z; exact .inr (.inl z)
        · rintro (z | z | z); exact .inl z; exact .inr z
          subst z; exact (hm j).mp q
      · rw [List.mem_cons, hm j]
        constructor
        · rintro (z | z | z); exact .inr (.inr z); exact .inl z; exact .inr (.inl z)
        · rintro (z | z | z); exact .inr (.inl z); exact .inr (.inr z); exact .inl z
    · rintro _ s' ⟨done, h', o', vs, hdn, rfl, sb, go, SM, hm⟩
      rw [List.append_nil] at hdn
      refine wpAny_pure (h h' o' vs sb go SM fun k => ?_)
      rw [hm k, hdn, ((pW.map keyOf).trans DA.keys).mem_iff]
    · exact ⟨[], h1, o1, ns, rfl, rfl, sb1, g1, ⟨g2, _, _, _, g3, D1⟩, fun k => by simp⟩
end
end Mine
end

section
open PySem
namespace Mine
open SetTable Builtin.Frozenset
section
variable {prog : Program} {w : World} {A : Around} {E : Value → Shared → Prop} {s : Shared}
theorem SetM.type {o : Obj} {ns : List Int} {a : Addr} (S : SetM w o ns) (ho : s.heap.get? a = some o) : s.TypeIs (.ref a) "set" := ⟨o, ho, S.1.1⟩
theorem set_base {a : Addr} {o : Obj} {ns : List Int} {Q : Value → Shared → Prop} (ho : s.heap.get? a = some o) (S : SetM w o ns) (h : Q (.type "set") s) : wpAny (model prog w) A (baseOf a) Q E s := by
  unfold baseOf
  refine wpAny_bind (wpAny_isInstance (S.type ho) PySem.sub_set_self ?_)
  simp only [if_true]
  exact wpAny_pure h
theorem set_any {a : Addr} {o : Obj} {ns : List Int} {Q : Bool → Shared → Prop} (ho : s.heap.get? a = some o) (S : SetM w o ns) (h : Q true s) : wpAny (model prog w) A (isAnySet (.ref a)) Q E s := by
  unfold isAnySet
  refine wpAny_bind (m := isInstance (.ref a) (.type "set")) (wpAny_isInstance (S.type ho) PySem.sub_set_self ?_)
  exact wpAny_pure h
theorem set_size {a : Addr} {o : Obj} {ns : List Int} {Q : Nat → Shared → Prop} (ho : s.heap.get? a = some o) (S : SetM w o ns) (h : Q ns.length s) : wpAny (model prog w) A (Builtin.Frozenset.sizeOf a) Q E s := by
  obtain ⟨hx, es, ep, t, hd, D⟩ := S
  unfold Builtin.Frozenset.sizeOf
  refine wpAny_bind (wpAny_setEntries_of ho hd D.fits (wpAny_pure ?_))
  rw [D.size]; exact h
theorem set_same {a : Addr} {o : Obj} {es : Array (Int × Value)} {ep : Nat} {t : SetTable} {ns : List Int} {id : String} {Q : Unit → Shared → Prop} (ho : s.heap.get? a = some o) (hd : o.data = .set es ep t) (D : SetD w es t ns) (h : Q () s) : wpAny (model prog w) A (unchanged id a ep) Q E s := by
  unfold unchanged
  refine wpAny_bind (wpAny_setEpoch_of ho hd D.fits ?_)
  rw [if_neg (by simp)]
  exact wpAny_pure h
noncomputable abbrev NewSet (w : World) (s : Shared) (P : Int → Prop) (Q : Value → Shared → Prop) : Prop :=
  ∀ h' D o' vs, (∀ b ob, s.heap.get? b = some ob → h'.get? b = some ob) → h'.get? D = some o' → D = s.heap.objs.size → SetM w o' vs → (∀ k, k ∈ vs ↔ P k) → Q (.ref D) { s with heap := h' }
theorem keep_push {h h' : Heap} {o : Obj} (sb : Heap.SameBut h.objs.size (h.push o) h') : ∀ b ob, h.get? b = some ob → h'.get? b = some ob :=
  fun b ob e => same_get sb (Nat.ne_of_lt (Heap.lt_size e)) (Heap.get?_push_of_some _ e)
theorem set_copy {a : Addr} {o : Obj} {ns : List Int} {Q : Value → Shared → Prop} (ho : s.heap.get? a = some o) (S : SetM w o ns) (hz : ns.length ≤ 58) (h : NewSet w s (· ∈ ns) Q) : wpAny (model prog w) A (copyOf a) Q E s := by
  unfold copyOf
  refine wpAny_bind (set_base ho S ?_)
  refine wpAny_bind (set_new fun oR SR fR => ?_)
  refine wpAny_bind (m := addrOf _) (wpAny_pure ?_)
  refine wpAny_bind (set_merge (s := { s with heap := s.heap.push oR }) (U := ns) (Nat.ne_of_gt (Heap.lt_size ho)) (Heap.get?_push_size _ fR) SR (Heap.get?_push_of_some _ ho) S (fun k hk => by simpa using hk) hz (fun s' P _ hp => wpAny_pure hp) fun h' o' vs sb go SM hm => ?_)
  exact wpAny_pure (h h' _ o' vs (keep_push sb) go rfl SM fun k => by rw [hm k]; simp)
theorem set_cut {id : String} {r b : Addr} {oR oB : Obj} {ns ms : List Int} {Q : Unit → Shared → Prop} (hne : r ≠ b) (hr : s.heap.get? r = some oR) (SR : SetM w oR ns) (hb : s.heap.get? b = some oB) (SB : SetM w oB ms) (hn : ns.length ≤ 58) (hl : ms.length / 8 ≤ ns.length)
    (h : ∀ h' o' vs, Heap.SameBut r s.heap h' → h'.get? r = some o' → SetM w o' vs → (∀ k, k ∈ vs ↔ k ∈ ns ∧ k ∉ ms) → Q () { s with heap := h' }) : wpAny (model prog w) A (differenceUpdate id r (.ref b)) Q E s := by
  obtain ⟨hxB, esB, epB, tB, hdB, DB⟩ := SB
  have SB : SetM w oB ms := ⟨hxB, esB, epB, tB, hdB, DB⟩
  unfold differenceUpdate
  rw [if_neg (by simp; exact Ne.symm hne)]
  refine wpAny_bind (set_any hb SB ?_)
  simp only [if_true]
  refine wpAny_bind (m := addrOf _) (wpAny_pure ?_)
  refine wpAny_bind (set_size hb SB ?_)
  refine wpAny_bind (set_size hr SR ?_)
  rw [if_neg (by lia)]
  refine wpAny_bind (wpAny_setEpoch_of hb hdB DB.fits ?_)
  refine wpAny_bind (wpAny_holding ?_)
  refine wpAny_bind (set_walkU hb hdB DB fun esW pW => ?_)
  refine wpAny_bind (wpAny_forIn_array' _ (fun rest (_ : PUnit) s' => ∃ done h' o' vs, done ++ rest = esW.toList ∧ s' = { s with heap := h' } ∧ Heap.SameBut r s.heap h' ∧ h'.get? r = some o' ∧ SetM w o' vs ∧ ∀ k, k ∈ vs ↔ k ∈ ns ∧ k ∉ done.map keyOf) _ ?_ ?_ esW ⟨⟩ ?_)
  · rintro x rest _ s' ⟨done, h', o', vs, hdn, rfl, sb, go, SM, hm⟩
    have hxm : x ∈ esW.toList := by rw [← hdn]; exact List.mem_append_right _ (.head _)
    obtain ⟨k, tk, rfl⟩ := DB.good x (pW.mem_iff.mp hxm)
    have hvl := sub_len SM.nd fun k hk => ((hm k).mp hk).1
    dsimp only
    refine wpAny_bind (wpAny_holding (set_discard (s := { s with heap := h' }) go SM (by lia) fun h2 o2 b2 sb2 go2 SM2 => ?_))
    have hb2 := same_get sb2 (Ne.symm hne) (same_get sb (Ne.symm hne) hb)
    refine wpAny_bind (set_same hb2 hdB DB ?_)
    refine wpAny_pure ⟨done ++ [(hashInt k, .int k tk)], h2, o2, _, by rw [List.append_assoc]; exact hdn, rfl, sb.trans sb2, go2, SM2, fun j => ?_⟩
    have e1 : List.map keyOf [(hashInt k, Value.int k tk)] = [k] := rfl
    rw [SM.nd.mem_erase_iff, hm j, List.map_append, List.mem_append, e1, List.mem_singleton]
    constructor
    · rintro ⟨z1, z2, z3⟩; exact ⟨z2, fun q => q.elim z3 z1⟩
    · rintro ⟨z1, z2⟩; exact ⟨fun q => z2 (.inr q), z1, fun q => z2 (.inl q)⟩
  · rintro _ s' ⟨done, h', o', vs, hdn, rfl, sb, go, SM, hm⟩
    rw [List.append_nil] at hdn
    have hvl := sub_len SM.nd fun k hk => ((hm k).mp hk).1
    refine wpAny_pure ?_
    refine set_tidy (s := { s with heap := h' }) go SM (by omega) fun h2 o2 sb2 go2 SM2 => ?_
    refine h h2 o2 vs (sb.trans sb2) go2 SM2 fun k => ?_
    rw [hm k, hdn, ((pW.map keyOf).trans DB.keys).mem_iff]
  · exact ⟨[], s.heap, oR, ns, rfl, rfl, Heap.SameBut.refl .., hr, SR, fun k => by simp⟩
theorem set_minus {id : String} {a b : Addr} {oA oB : Obj} {ns ms : List Int} {Q : Value → Shared → Prop} (ha : s.heap.get? a = some oA) (SA : SetM w oA ns) (hb : s.heap.get? b = some oB) (SB : SetM w oB ms) (hn : ns.length ≤ 58) (hm : ms.length ≤ 58)
    (h : NewSet w s (fun k => k ∈ ns ∧ k ∉ ms) Q) : wpAny (model prog w) A (difference id a (.ref b)) Q E s := by
  obtain ⟨hxA, esA, epA, tA, hdA, DA⟩ := SA
  have SA : SetM w oA ns := ⟨hxA, esA, epA, tA, hdA, DA⟩
  obtain ⟨hxB, esB, epB, tB, hdB, DB⟩ := SB
  have SB : SetM w oB ms := ⟨hxB, esB, epB, tB, hdB, DB⟩
  unfold difference
  refine wpAny_bind (set_any hb SB ?_)
  simp only [Bool.not_true, Bool.false_eq_true, if_false, if_true, Bool.false_and]
  refine wpAny_bind (m := addrOf _) (wpAny_pure ?_)
  refine wpAny_bind (set_size hb SB ?_)
  refine wpAny_bind (set_size ha SA ?_)
  by_cases hc : ns.length / 4 > ms.length
  · rw [if_pos hc]
    refine wpAny_bind (wpAny_rule ?_)
    refine wpAny_bind (set_copy ha SA hn fun h1 D o1 vs k1 g1 e1 S1 m1 => ?_)
    have hv := sub_len S1.nd fun k hk => (m1 k).mp hk
    have hv2 := sub_len SA.nd fun k hk => (m1 k).mpr hk
    have hD : D ≠ b := by rw [e1]; exact Nat.ne_of_gt (Heap.lt_size hb)
    refine wpAny_bind (m := addrOf _) (wpAny_pure ?_)
    refine wpAny_bind (wpAny_holding ?_)
    refine set_cut (s := { s with heap := h1 }) hD g1 S1 (k1 _ _ hb) SB (by lia) (by lia) fun h2 o2 vs2 sb2 g2 S2 m2 => ?_
    refine wpAny_pure (h h2 D o2 vs2 (fun x ob e => same_get sb2 (by rw [e1]; exact Nat.ne_of_lt (Heap.lt_size e)) (k1 _ _ e)) g2 e1 S2 fun k => by rw [m2 k, m1 k])
  · rw [if_neg hc]
    refine wpAny_bind (set_base ha SA ?_)
    refine wpAny_bind (set_new fun oR SR fR => ?_)
    refine wpAny_bind (m := addrOf _) (wpAny_pure ?_)
    have old : ∀ {x ob}, s.heap.get? x = some ob → (s.heap.push oR).get? x = some ob := fun e => Heap.get?_push_of_some _ e
    refine wpAny_bind (wpAny_setEpoch_of (s := { s with heap := s.heap.push oR }) (old ha) hdA DA.fits ?_)
    refine wpAny_bind (wpAny_holding ?_)
    refine wpAny_bind (set_walkU (s := { s with heap := s.heap.push oR }) (old ha) hdA DA fun esW pW => ?_)
    refine wpAny_bind (wpAny_forIn_array' _ (fun rest (_ : PUnit) s' => ∃ done h' o' vs, done ++ rest = esW.toList ∧ s' = { s with heap := h' } ∧ Heap.SameBut s.heap.objs.size (s.heap.push oR) h' ∧ h'.get? s.heap.objs.size = some o' ∧ SetM w o' vs ∧ ∀ k, k ∈ vs ↔ k ∈ done.map keyOf ∧ k ∉ ms) _ ?_ ?_ esW ⟨⟩ ?_)
    · rintro x rest _ s' ⟨done, h', o', vs, hdn, rfl, sb, go, SM, hv⟩
      have hxm : x ∈ esW.toList := by rw [← hdn]; exact List.mem_append_right _ (.head _)
      obtain ⟨k, tk, rfl⟩ := DA.good x (pW.mem_iff.mp hxm)
      have hvl := sub_len SM.nd (b := ns) fun k hk => by
        obtain ⟨e, he, q⟩ := List.mem_map.mp ((hv k).mp hk).1
        exact DA.keys.mem_iff.mp (List.mem_map.mpr ⟨e, pW.mem_iff.mp (by rw [← hdn]; exact List.mem_append_left _ he), q⟩)
      have e1 : List.map keyOf [(hashInt k, Value.int k tk)] = [k] := rfl
      have hk := keep_push sb
      dsimp only
      refine wpAny_bind (wpAny_holding (wpAny_bind (set_find (s := { s with heap := h' }) (hk _ _ hb) hdB DB (by lia) (fun q => ?_) fun j hj q _ => ?_)))
      · refine wpAny_bind (wpAny_pure ?_)
        simp only [Option.isSome_none]
        simp only [Bool.not_false, if_true]
        refine wpAny_bind (set_add (s := { s with heap := h' }) go SM (by lia) fun h2 o2 b2 sb2 go2 SM2 => ?_)
        refine wpAny_pure ?_
        refine wpAny_bind (set_same (s := { s with heap := h2 }) (keep_push (sb.trans sb2) _ _ ha) hdA DA ?_)
        refine wpAny_pure ⟨done ++ [(hashInt k, .int k tk)], h2, o2, _, by rw [List.append_assoc]; exact hdn, rfl, sb.trans sb2, go2, SM2, fun j => ?_⟩
        rw [List.map_append, List.mem_append, e1, List.mem_singleton]
        split
        · rename_i z
          rw [hv j]
          constructor
          · rintro ⟨z1, z2⟩; exact ⟨.inl z1, z2⟩
          · rintro ⟨z1 | z1, z2⟩
            · exact ⟨z1, z2⟩
            · subst z1; exact (hv j).mp z
        · rw [List.mem_cons, hv j]
          constructor
          · rintro (z1 | ⟨z1, z2⟩)
            · subst z1; exact ⟨.inr rfl, q⟩
            · exact ⟨.inl z1, z2⟩
          · rintro ⟨z1 | z1, z2⟩
            · exact .inr ⟨z1, z2⟩
            · exact .inl z1
      · refine wpAny_bind (wpAny_pure ?_)
        simp only [Option.isSome_some, Bool.not_true, Bool.false_eq_true, if_false]
        refine wpAny_pure ?_
        refine wpAny_bind (set_same (s := { s with heap := h' }) (hk _ _ ha) hdA DA ?_)
        refine wpAny_pure ⟨done ++ [(hashInt k, .int k tk)], h', o', _, by rw [List.append_assoc]; exact hdn, rfl, sb, go, SM, fun j => ?_⟩
        rw [List.map_append, List.mem_append, e1, List.mem_singleton, hv j]
        constructor
        · rintro ⟨z1, z2⟩; exact ⟨.inl z1, z2⟩
        · rintro ⟨z1 | z1, z2⟩
          · exact ⟨z1, z2⟩
          · subst z1; exact absurd q z2
    · rintro _ s' ⟨done, h', o', vs, hdn, rfl, sb, go, SM, hv⟩
      rw [List.append_nil] at hdn
      refine wpAny_pure (wpAny_pure (h h' _ o' vs (keep_push sb) go rfl SM fun k => ?_))
      rw [hv k, hdn, ((pW.map keyOf).trans DA.keys).mem_iff]
    · exact ⟨[], _, oR, [], rfl, rfl, Heap.SameBut.refl .., Heap.get?_push_size _ fR, SR, fun k => by simp⟩
end
end Mine
end

section
open PySem
namespace Mine
open SetTable Builtin.Frozenset
theorem entry_al {id id' : String} {b : Builtin} (h1 : entriesT.find (code id) = none) (h2 : id.cutAt '#' = [id])
    (h3 : Manifest.canonical (String.map (fun c => if (c.isAlphanum || c == '_' || c == '.') = true then c else '_') id) ++ "" = id') (h4 : entriesT.find (code id') = some b) : entryFor table id = some b :=
  entryFor_alias (by rw [fastTable_eq_tree]; exact h1) h2 h3 (by rw [fastTable_eq_tree]; exact h4)
theorem entry_set_sub : entryFor table "set.__sub__" = some Builtin.«frozenset.__sub__» := entry_al (id' := "frozenset.__sub__") (by kernel_rfl) rfl (by decide +kernel) (by kernel_rfl)
theorem entry_set_or : entryFor table "set.__or__" = some Builtin.«frozenset.__or__» := entry_al (id' := "frozenset.__or__") (by kernel_rfl) rfl (by decide +kernel) (by kernel_rfl)
theorem entry_set_and : entryFor table "set.__and__" = some Builtin.«frozenset.__and__» := entry_al (id' := "frozenset.__and__") (by kernel_rfl) rfl (by decide +kernel) (by kernel_rfl)
theorem entry_set_le : entryFor table "set.__le__" = some Builtin.«frozenset.__le__» := entry_al (id' := "frozenset.__le__") (by kernel_rfl) rfl (by decide +kernel) (by kernel_rfl)
theorem entry_set_iter : entryFor table "set.__iter__" = some Builtin.«frozenset.__iter__» := entry_al (id' := "frozenset.__iter__") (by kernel_rfl) rfl (by decide +kernel) (by kernel_rfl)
section
variable {prog : Program} {w : World} {A : Around} {E : Value → Shared → Prop} {s : Shared}
theorem set_sub {a b : Addr} {oA oB : Obj} {ns ms : List Int} {Q : Value → Shared → Prop} (ha : s.heap.get? a = some oA) (SA : SetM w oA ns) (hb : s.heap.get? b = some oB) (SB : SetM w oB ms) (hn : ns.length ≤ 58) (hm : ms.length ≤ 58)
    (h : NewSet w s (fun k => k ∈ ns ∧ k ∉ ms) Q) : wpAny (model prog w) A (binaryOp .Sub (.ref a) (.ref b)) Q E s := by
  refine wpAny_binaryOp_same (SA.type ha) (SB.type hb) PySem.F.fills_set_sub PySem.F.slot_set_sub (wpAny_call_entry PySem.F.slot_set_sub (SA.type ha) entry_set_sub ?_ (PySem.F.args_set_sub_2 _ _))
  unfold Builtin.«frozenset.__sub__»
  wp_delta
  refine wpAny_bind (m := slot1 "__sub__" _) (wpAny_pure ?_)
  dsimp only
  simp only [Bool.false_eq_true, if_false]
  refine wpAny_bind (m := (isAnySet (.ref a) <&&> isAnySet (.ref b))) ?_
  refine wpAny_bind (m := isAnySet (.ref a)) (set_any ha SA ?_)
  refine set_any hb SB ?_
  simp only [Bool.not_true, Bool.false_eq_true, if_false]
  refine wpAny_bind (m := addrOf _) (wpAny_pure ?_)
  refine wpAny_bind (set_minus ha SA hb SB hn hm fun h' D o' vs h1 h2 h3 h4 h5 => ?_)
  exact wpAny_pure ⟨_, rfl, by simp, h h' D o' vs h1 h2 h3 h4 h5⟩
theorem set_or {a b : Addr} {oA oB : Obj} {ns ms U : List Int} {Q : Value → Shared → Prop} (hne : a ≠ b) (ha : s.heap.get? a = some oA) (SA : SetM w oA ns) (hb : s.heap.get? b = some oB) (SB : SetM w oB ms) (hU : ∀ k, k ∈ ns ∨ k ∈ ms → k ∈ U) (hz : U.length ≤ 58)
    (h : NewSet w s (fun k => k ∈ ns ∨ k ∈ ms) Q) : wpAny (model prog w) A (binaryOp .BitOr (.ref a) (.ref b)) Q E s := by
  have ln := sub_len SA.nd fun k hk => hU k (.inl hk)
  refine wpAny_binaryOp_same (SA.type ha) (SB.type hb) PySem.F.fills_set_or PySem.F.slot_set_or (wpAny_call_entry PySem.F.slot_set_or (SA.type ha) entry_set_or ?_ (PySem.F.args_set_or_2 _ _))
  unfold Builtin.«frozenset.__or__»
  wp_delta
  refine wpAny_bind (m := slot1 "__or__" _) (wpAny_pure ?_)
  dsimp only
  simp only [Bool.false_eq_true, if_false]
  refine wpAny_bind (m := (isAnySet (.ref a) <&&> isAnySet (.ref b))) ?_
  refine wpAny_bind (m := isAnySet (.ref a)) (set_any ha SA ?_)
  refine set_any hb SB ?_
  simp only [Bool.not_true, Bool.false_eq_true, if_false]
  refine wpAny_bind (m := addrOf _) (wpAny_pure ?_)
  refine wpAny_bind ?_
  wp_delta
  refine wpAny_bind (set_copy ha SA (by lia) fun h1 D o1 vs k1 g1 e1 S1 m1 => ?_)
  have hD : D ≠ b := by rw [e1]; exact Nat.ne_of_gt (Heap.lt_size hb)
  rw [if_pos (by simp; exact Ne.symm hne)]
  refine wpAny_bind (m := addrOf _) (wpAny_pure ?_)
  refine wpAny_bind (wpAny_holding ?_)
  unfold updateFrom
  have hb1 := k1 _ _ hb
  refine wpAny_bind (set_any (s := { s with heap := h1 }) hb1 SB ?_)
  simp only [if_true]
  refine wpAny_bind (m := addrOf _) (wpAny_pure ?_)
  unfold merge
  obtain ⟨hxB, esB, epB, tB, hdB, DB⟩ := SB
  have SB : SetM w oB ms := ⟨hxB, esB, epB, tB, hdB, DB⟩
  refine wpAny_bind (wpAny_setEpoch_of (s := { s with heap := h1 }) hb1 hdB DB.fits ?_)
  refine set_merge (s := { s with heap := h1 }) (U := U) hD g1 S1 hb1 SB (fun k hk => hU k (hk.imp (m1 k).mp fun q => q)) hz (fun s' P hs hp => set_same hs hdB DB hp) fun h2 o2 vs2 sb2 g2 S2 m2 => ?_
  refine wpAny_pure (wpAny_pure ⟨_, rfl, by simp, h h2 D o2 vs2 (fun x ob e => same_get sb2 (by rw [e1]; exact Nat.ne_of_lt (Heap.lt_size e)) (k1 _ _ e)) g2 e1 S2 fun k => by rw [m2 k, m1 k]⟩)
theorem inter_loop {id : String} {x y : Addr} {oX oY oR : Obj} {ns ms : List Int} {Q : Unit → Shared → Prop} (hx : s.heap.get? x = some oX) (SX : SetM w oX ns) (hy : s.heap.get? y = some oY) (SY : SetM w oY ms) (SR : SetM w oR []) (fR : oR.isFreed = false) (hn : ns.length ≤ 58) (hm : ms.length ≤ 58)
    (h : NewSet w s (fun k => k ∈ ns ∧ k ∈ ms) (fun _ s' => Q () s')) :
    wpAny (model prog w) A (do
        let was ← setEpoch y
        for (h, v) in ← setWalkUnseen y [x, s.heap.objs.size] (some s.heap.objs.size) do
          holding [v] do
            if (← setFind x v h).isSome then
              let _ ← setAddHashed s.heap.objs.size v h
          unchanged id y was) Q E { s with heap := s.heap.push oR } := by
  obtain ⟨hxX, esX, epX, tX, hdX, DX⟩ := SX
  obtain ⟨hxY, esY, epY, tY, hdY, DY⟩ := SY
  have old : ∀ {x ob}, s.heap.get? x = some ob → (s.heap.push oR).get? x = some ob := fun e => Heap.get?_push_of_some _ e
  refine wpAny_bind (wpAny_setEpoch_of (s := { s with heap := s.heap.push oR }) (old hy) hdY DY.fits ?_)
  refine wpAny_bind (set_walkU (s := { s with heap := s.heap.push oR }) (old hy) hdY DY fun esW pW => ?_)
  refine wpAny_bind (wpAny_forIn_array' _ (fun rest (_ : PUnit) s' => ∃ done h' o' vs, done ++ rest = esW.toList ∧ s' = { s with heap := h' } ∧ Heap.SameBut s.heap.objs.size (s.heap.push oR) h' ∧ h'.get? s.heap.objs.size = some o' ∧ SetM w o' vs ∧ ∀ k, k ∈ vs ↔ k ∈ done.map keyOf ∧ k ∈ ns) _ ?_ ?_ esW ⟨⟩ ?_)
  · rintro e rest _ s' ⟨done, h', o', vs, hdn, rfl, sb, go, SM, hv⟩
    have hxm : e ∈ esW.toList := by rw [← hdn]; exact List.mem_append_right _ (.head _)
    obtain ⟨k, tk, rfl⟩ := DY.good e (pW.mem_iff.mp hxm)
    have hvl := sub_len SM.nd (b := ns) fun k hk => ((hv k).mp hk).2
    have e1 : List.map keyOf [(hashInt k, Value.int k tk)] = [k] := rfl
    have hk := keep_push sb
    dsimp only
    refine wpAny_bind (wpAny_holding (wpAny_bind (set_find (s := { s with heap := h' }) (hk _ _ hx) hdX DX (by lia) (fun q => ?_) fun j hj q _ => ?_)))
    · simp only [Option.isSome_none, Bool.false_eq_true, if_false]
      refine wpAny_pure ?_
      refine wpAny_bind (set_same (s := { s with heap := h' }) (hk _ _ hy) hdY DY ?_)
      refine wpAny_pure ⟨done ++ [(hashInt k, .int k tk)], h', o', _, by rw [List.append_assoc]; exact hdn, rfl, sb, go, SM, fun j => ?_⟩
      rw [List.map_append, List.mem_append, e1, List.mem_singleton, hv j]
      constructor
      · rintro ⟨z1, z2⟩; exact ⟨.inl z1, z2⟩
      · rintro ⟨z1 | z1, z2⟩
        · exact ⟨z1, z2⟩
        · subst z1; exact absurd z2 q
    · simp only [Option.isSome_some, if_true]
      refine wpAny_bind (set_add (s := { s with heap := h' }) go SM (by lia) fun h2 o2 b2 sb2 go2 SM2 => ?_)
      refine wpAny_pure ?_
      refine wpAny_bind (set_same (s := { s with heap := h2 }) (keep_push (sb.trans sb2) _ _ hy) hdY DY ?_)
      refine wpAny_pure ⟨done ++ [(hashInt k, .int k tk)], h2, o2, _, by rw [List.append_assoc]; exact hdn, rfl, sb.trans sb2, go2, SM2, fun j => ?_⟩
      rw [List.map_append, List.mem_append, e1, List.mem_singleton]
      split
      · rename_i z
        rw [hv j]
        constructor
        · rintro ⟨z1, z2⟩; exact ⟨.inl z1, z2⟩
        · rintro ⟨z1 | z1, z2⟩
          · exact ⟨z1, z2⟩
          · subst z1; exact (hv j).mp z
      · rw [List.mem_cons, hv j]
        constructor
        · rintro (z1 | ⟨z1, z2⟩)
          · subst z1; exact ⟨.inr rfl, q⟩
          · exact ⟨.inl z1, z2⟩
        · rintro ⟨z1 | z1, z2⟩
          · exact .inr ⟨z1, z2⟩
          · exact .inl z1
  · rintro _ s' ⟨done, h', o', vs, hdn, rfl, sb, go, SM, hv⟩
    rw [List.append_nil] at hdn
    refine wpAny_pure (h h' _ o' vs (keep_push sb) go rfl SM fun k => ?_)
    rw [hv k, hdn, ((pW.map keyOf).trans DY.keys).mem_iff, and_comm]
  · exact ⟨[], _, oR, [], rfl, rfl, Heap.SameBut.refl .., Heap.get?_push_size _ fR, SR, fun k => by simp⟩
end
end Mine
end

section
open PySem
namespace Mine
open SetTable Builtin.Frozenset
section
variable {prog : Program} {w : World} {A : Around} {E : Value → Shared → Prop} {s : Shared}
theorem set_and {a b : Addr} {oA oB : Obj} {ns ms : List Int} {Q : Value → Shared → Prop} (hne : a ≠ b) (ha : s.heap.get? a = some oA) (SA : SetM w oA ns) (hb : s.heap.get? b = some oB) (SB : SetM w oB ms) (hn : ns.length ≤ 58) (hm : ms.length ≤ 58)
    (h : NewSet w s (fun k => k ∈ ns ∧ k ∈ ms) Q) : wpAny (model prog w) A (binaryOp .BitAnd (.ref a) (.ref b)) Q E s := by
  refine wpAny_binaryOp_same (SA.type ha) (SB.type hb) PySem.F.fills_set_and PySem.F.slot_set_and (wpAny_call_entry PySem.F.slot_set_and (SA.type ha) entry_set_and ?_ (PySem.F.args_set_and_2 _ _))
  unfold Builtin.«frozenset.__and__»
  wp_delta
  refine wpAny_bind (m := slot1 "__and__" _) (wpAny_pure ?_)
  dsimp only
  simp only [Bool.false_eq_true, if_false]
  refine wpAny_bind (m := (isAnySet (.ref a) <&&> isAnySet (.ref b))) ?_
  refine wpAny_bind (m := isAnySet (.ref a)) (set_any ha SA ?_)
  refine set_any hb SB ?_
  simp only [Bool.not_true, Bool.false_eq_true, if_false]
  refine wpAny_bind (m := addrOf _) (wpAny_pure ?_)
  refine wpAny_bind ?_
  unfold intersection
  rw [if_neg (by simp; exact Ne.symm hne)]
  refine wpAny_bind (set_base ha SA ?_)
  refine wpAny_bind (set_new fun oR SR fR => ?_)
  refine wpAny_bind (m := addrOf _) (wpAny_pure ?_)
  have old : ∀ {x ob}, s.heap.get? x = some ob → (s.heap.push oR).get? x = some ob := fun e => Heap.get?_push_of_some _ e
  refine wpAny_bind (wpAny_holding ?_)
  refine wpAny_bind (set_any (s := { s with heap := s.heap.push oR }) (old hb) SB ?_)
  simp only [if_true]
  refine wpAny_bind (m := addrOf _) (wpAny_pure ?_)
  refine wpAny_bind (set_size (s := { s with heap := s.heap.push oR }) (old hb) SB ?_)
  refine wpAny_bind (set_size (s := { s with heap := s.heap.push oR }) (old ha) SA ?_)
  by_cases hc : ms.length > ns.length
  · rw [if_pos hc]
    exact inter_loop hb SB ha SA SR fR hm hn fun h' D o' vs h1 h2 h3 h4 h5 => wpAny_pure (wpAny_pure ⟨_, rfl, by simp, by rw [← h3]; exact h h' D o' vs h1 h2 h3 h4 fun k => (h5 k).trans and_comm⟩)
  · rw [if_neg hc]
    exact inter_loop ha SA hb SB SR fR hn hm fun h' D o' vs h1 h2 h3 h4 h5 => wpAny_pure (wpAny_pure ⟨_, rfl, by simp, by rw [← h3]; exact h h' D o' vs h1 h2 h3 h4 h5⟩)
theorem int_quiet {x : Value} {k : Int} {t : Tok} {Q : Bool → Shared → Prop} (e : x = .int k t) (h : Q true s) : wpAny (model prog w) A (quietEq x) Q E s := by subst e; exact wpAny_pure h
theorem set_subset {id : String} {a b : Addr} {oA oB : Obj} {ns ms : List Int} {Q : Bool → Shared → Prop} (ha : s.heap.get? a = some oA) (SA : SetM w oA ns) (hb : s.heap.get? b = some oB) (SB : SetM w oB ms) (hm : ms.length ≤ 58)
    (h : ∀ v, (v = true ↔ ∀ k ∈ ns, k ∈ ms) → Q v s) : wpAny (model prog w) A (subsetOf id a b) Q E s := by
  obtain ⟨hxA, esA, epA, tA, hdA, DA⟩ := SA
  have SA : SetM w oA ns := ⟨hxA, esA, epA, tA, hdA, DA⟩
  obtain ⟨hxB, esB, epB, tB, hdB, DB⟩ := SB
  have SB : SetM w oB ms := ⟨hxB, esB, epB, tB, hdB, DB⟩
  unfold subsetOf
  refine wpAny_bind (set_size ha SA ?_)
  refine wpAny_bind (set_size hb SB ?_)
  by_cases hc : ns.length > ms.length
  · rw [if_pos hc]
    refine wpAny_pure (h false ⟨fun q => (nomatch q), fun q => ?_⟩)
    have := sub_len SA.nd q
    lia
  rw [if_neg hc]
  refine wpAny_bind (wpAny_setEpoch_of ha hdA DA.fits ?_)
  refine wpAny_bind (m := walkUnseen a b) ?_
  unfold walkUnseen
  refine wpAny_bind (wpAny_setEntries_of ha hdA DA.fits ?_)
  refine wpAny_bind (wpAny_setEntries_of hb hdB DB.fits ?_)
  refine wpAny_bind (wpAny_forIn_list _ (fun rest (r : Option (List (Int × Value)) × Unit) s' => s' = s ∧ r = (none, ()) ∧ ∀ e ∈ rest, GoodE e) _ ?_ ?_ _ _ ?_)
  · rintro x rest _ s' ⟨rfl, rfl, hg⟩
    obtain ⟨k, tk, rfl⟩ := hg x (.head _)
    refine wpAny_bind (int_quiet rfl ?_)
    simp only [Bool.not_true, Bool.false_eq_true, if_false]
    exact wpAny_pure ⟨rfl, rfl, fun e he => hg e (.tail _ he)⟩
  · rintro _ s' ⟨rfl, rfl, _⟩
    dsimp only
    refine wpAny_pure ?_
    refine wpAny_bind (wpAny_forIn_list _ (fun rest (r : Option Bool × Unit) s'' => s'' = s' ∧ r = (none, ()) ∧ ∃ done, done ++ rest = esA.toList ∧ ∀ e ∈ done, keyOf e ∈ ms) _ ?_ ?_ _ _ ?_)
    · rintro x rest _ s'' ⟨rfl, rfl, done, hdn, hall⟩
      have hxm : x ∈ esA.toList := by rw [← hdn]; exact List.mem_append_right _ (.head _)
      obtain ⟨k, tk, rfl⟩ := DA.good x hxm
      dsimp only
      refine wpAny_bind (wpAny_holding (set_find hb hdB DB (by lia) (fun q => ?_) fun j hj q _ => ?_))
      · simp only [Option.isNone_none, if_true]
        refine wpAny_pure ?_
        dsimp only
        refine wpAny_pure (h false ⟨fun q => (nomatch q), fun z => absurd (z k (DA.keys.mem_iff.mp (List.mem_map.mpr ⟨_, hxm, rfl⟩))) q⟩)
      · simp only [Option.isNone_some, Bool.false_eq_true, if_false]
        refine wpAny_bind (set_same ha hdA DA ?_)
        refine wpAny_pure ⟨rfl, rfl, done ++ [(hashInt k, .int k tk)], by rw [List.append_assoc]; exact hdn, fun e he => ?_⟩
        rcases List.mem_append.mp he with z | z
        · exact hall e z
        · rw [List.mem_singleton] at z; subst z; exact q
    · rintro _ s'' ⟨rfl, rfl, done, hdn, hall⟩
      dsimp only
      rw [List.append_nil] at hdn
      refine wpAny_pure (h true ⟨fun _ k hk => ?_, fun _ => rfl⟩)
      obtain ⟨e, he, rfl⟩ := List.mem_map.mp (DA.keys.mem_iff.mpr hk)
      exact hall e (by rw [hdn]; exact he)
    · exact ⟨rfl, rfl, [], rfl, fun e he => (nomatch he)⟩
  · refine ⟨rfl, rfl, fun e he => ?_⟩
    rcases List.mem_append.mp he with z | z
    · exact DA.good e z
    · exact DB.good e z
theorem set_le {a b : Addr} {oA oB : Obj} {ns ms : List Int} {Q : Value → Shared → Prop} (ha : s.heap.get? a = some oA) (SA : SetM w oA ns) (hb : s.heap.get? b = some oB) (SB : SetM w oB ms) (hm : ms.length ≤ 58) (hu : A.units < cLine)
    (h : ∀ v, (v = true ↔ ∀ k ∈ ns, k ∈ ms) → Q (.bool v) s) : wpAny (model prog w) A (compareOp .LtE (.ref a) (.ref b)) Q E s := by
  show wpAny _ _ (richCompare .LtE _ _) _ _ _
  refine wpAny_richCompare_same_room (SA.type ha) (SB.type hb) PySem.F.slot_set_le (wpAny_call_entry PySem.F.slot_set_le (SA.type ha) entry_set_le ?_ (PySem.F.args_set_le_2 _ _)) hu
  unfold Builtin.«frozenset.__le__»
  wp_delta
  refine wpAny_bind (m := slot1 "__le__" _) (wpAny_pure ?_)
  dsimp only
  refine wpAny_bind (set_any hb SB ?_)
  simp only [Bool.not_true, Bool.false_eq_true, if_false]
  refine wpAny_bind (m := addrOf _) (wpAny_pure ?_)
  refine wpAny_bind (m := addrOf _) (wpAny_pure ?_)
  refine wpAny_bind (set_size ha SA ?_)
  refine wpAny_bind (set_size hb SB ?_)
  refine wpAny_bind (set_subset ha SA hb SB hm fun v hv => ?_)
  exact wpAny_pure ⟨_, rfl, by simp, h v hv⟩
end
end Mine
end

section
open PySem
namespace Mine
open SetTable Builtin.Frozenset PySem.W
theorem slot_si_next : Slot "set_iterator" "__next__" "set_iterator.__next__" :=
  .of (owner := "set_iterator") (n := "__next__") (by rw [typeLookup_type, builtinLookup_eq_fast]; kernel_rfl) (by decide +kernel) (by decide +kernel) (by decide +kernel)
    (by first | exact .inl (by decide +kernel) | exact .inr (by decide +kernel)) (by rw [isSubtype_type]; kernel_rfl)
theorem entry_si_next : entryFor table "set_iterator.__next__" = some Builtin.«set_iterator.__next__» := entryFor_of_tree (by kernel_rfl)
theorem owner_si : Manifest.owners.lookup (String.ofList ['r', 'o', 't', 'a', 'r', 'e', 't', 'i', '_', 't', 'e', 's'].reverse) = some Manifest.sig_set_iterator := by kernel_rfl
theorem args_si_next (a : Value) : argsOk "set_iterator.__next__" ⟨[a], []⟩ := by
  unfold argsOk; rw [signature?_of (id := "set_iterator.__next__") (n := ['_', '_', 't', 'x', 'e', 'n', '_', '_']) (o := ['r', 'o', 't', 'a', 'r', 'e', 't', 'i', '_', 't', 'e', 's']) (by kernel_rfl) owner_si]; kernel_rfl
theorem slot_si_iter : Slot "set_iterator" "__iter__" "set_iterator.__iter__" :=
  .of (owner := "set_iterator") (n := "__iter__") (by rw [typeLookup_type, builtinLookup_eq_fast]; kernel_rfl) (by decide +kernel) (by decide +kernel) (by decide +kernel)
    (by first | exact .inl (by decide +kernel) | exact .inr (by decide +kernel)) (by rw [isSubtype_type]; kernel_rfl)
theorem entry_si_iter : entryFor table "set_iterator.__iter__" = some Builtin.«dict_keyiterator.__iter__» := entry_al (id' := "dict_keyiterator.__iter__") (by kernel_rfl) rfl (by decide +kernel) (by kernel_rfl)
theorem args_si_iter (a : Value) : argsOk "set_iterator.__iter__" ⟨[a], []⟩ := by
  unfold argsOk; rw [signature?_of (id := "set_iterator.__iter__") (n := ['_', '_', 'r', 'e', 't', 'i', '_', '_']) (o := ['r', 'o', 't', 'a', 'r', 'e', 't', 'i', '_', 't', 'e', 's']) (by kernel_rfl) owner_si]; kernel_rfl
theorem BelowAt.uniq {xs : Array Nat} {j p q : Nat} (h : BelowAt xs j p) (g : BelowAt xs j q) : p = q := by
  rcases Nat.lt_trichotomy p q with z | z | z
  · have := h.hi p (by have := g.le; lia) (Nat.le_refl _); have := g.lo p (by have := g.le; lia) z; omega
  · exact z
  · have := g.hi q (by have := h.le; lia) (Nat.le_refl _); have := h.lo q (by have := h.le; lia) z; omega
theorem below_zero {xs : Array Nat} (h : Rise xs) : below xs 0 = 0 := (below_at h).uniq ⟨Nat.zero_le _, fun i q z => absurd z (Nat.not_lt_zero _), fun i q _ => Nat.zero_le _⟩
theorem below_next {xs : Array Nat} (h : Rise xs) {i : Nat} (hi : i < xs.size) : below xs (xs[i] + 1) = i + 1 :=
  (below_at h).uniq ⟨hi, fun k q z => Nat.lt_succ_of_le (rise_le h q hi (Nat.le_of_lt_succ z)), fun k q z => rise_get h hi q z⟩
noncomputable def walkArr (w : World) (a : Addr) (ep : Nat) (es : Array (Int × Value)) : Array (Int × Value) := if byText w = true then pickOrder (w.params.setOrder a ep) es else es
theorem walkArr_perm (w : World) (a : Addr) (ep : Nat) (es : Array (Int × Value)) : (walkArr w a ep es).toList.Perm es.toList := by unfold walkArr; split; exact pick_perm _ _; exact .rfl
structure SiO (o : Obj) (a : Addr) (slot i n ep : Nat) : Prop where
  cls : o.cls = .type "set_iterator"
  data : o.data = .fields #[.int slot 0, .int i 0, .ref a, .int n 0, .int ep 0]
section
variable {prog : Program} {w : World} {A : Around} {E : Value → Shared → Prop} {s : Shared}
theorem set_walkE {a : Addr} {o : Obj} {es : Array (Int × Value)} {ep : Nat} {t : SetTable} {ns : List Int} {Q : Array (Int × Value) → Shared → Prop} (ho : s.heap.get? a = some o) (hd : o.data = .set es ep t) (D : SetD w es t ns)
    (hb : byText w = true) (h : Q (walkArr w a ep es) s) : wpAny (model prog w) A (setWalk a) Q E s := by
  unfold setWalk
  refine wpAny_bind (wpAny_setState_of ho hd D.fits ?_)
  dsimp only
  refine wpAny_bind (set_byText ?_)
  rw [hb]
  simp only [if_true]
  unfold walkArr at h
  rw [if_pos hb] at h
  exact wpAny_bind (wpAny_askSetting (wpAny_pure h))
theorem si_next {a : Addr} {o : Obj} {es : Array (Int × Value)} {ep slot i : Nat} {t : SetTable} {ns : List Int} {Q : Option (Value × Nat) → Shared → Prop} (ho : s.heap.get? a = some o) (hd : o.data = .set es ep t) (D : SetD w es t ns)
    (hs : byText w = false → below t.place slot = i)
    (h1 : ∀ e slot', (walkArr w a ep es)[i]? = some e → (byText w = false → below t.place slot' = i + 1) → Q (some (e.2, slot')) s) (h2 : (walkArr w a ep es)[i]? = none → Q none s) : wpAny (model prog w) A (setNext a slot i ep) Q E s := by
  unfold setNext
  refine wpAny_bind (wpAny_setState_of ho hd D.fits ?_)
  dsimp only
  refine wpAny_bind (set_byText ?_)
  cases hb : byText w with
  | true =>
    simp only [if_true]
    rw [if_neg (by simp)]
    refine wpAny_bind (set_walkE ho hd D hb ?_)
    refine wpAny_pure ?_
    cases e : (walkArr w a ep es)[i]? with
    | none => exact h2 e
    | some e' => exact h1 e' slot e fun q => by rw [hb] at q; cases q
  | false =>
    simp only [Bool.false_eq_true, if_false]
    have hp : (!t.plain && decide (es.size > 1)) = false := by rw [D.tab.plain]; rfl
    have hl : (!t.led && !es.isEmpty) = false := by rw [D.tab.led hb]; rfl
    show wpAny _ _ (if (!t.plain && decide (es.size > 1)) = true then _ else _) _ _ _
    rw [if_neg (by rw [hp]; decide)]
    refine wpAny_bind (m := if (!t.led && !es.isEmpty) = true then unsupported "set:maker-not-led" else pure ()) ?_
    rw [if_neg (by rw [hl]; decide)]
    refine wpAny_pure (wpAny_pure ?_)
    rw [hs hb]
    have hw : walkArr w a ep es = es := by unfold walkArr; rw [if_neg (by rw [hb]; decide)]
    rw [hw] at h1 h2
    have hps := D.tab.size
    by_cases hi : i < es.size
    · rw [Array.getElem?_eq_getElem hi, Array.getElem?_eq_getElem (by lia : i < t.place.size)]
      exact h1 es[i] _ (Array.getElem?_eq_getElem hi) fun _ => below_next D.tab.rise _
    · rw [Array.getElem?_eq_none (by lia : es.size ≤ i)]
      exact h2 (Array.getElem?_eq_none (by omega))
theorem set_iter {a : Addr} {o : Obj} {es : Array (Int × Value)} {ep : Nat} {t : SetTable} {ns : List Int} {Q : Value → Shared → Prop} (ho : s.heap.get? a = some o) (hx : o.ExactSet) (hd : o.data = .set es ep t) (D : SetD w es t ns)
    (h : Q (.ref s.heap.objs.size) { s with heap := s.heap.push { cls := .type "set_iterator", data := .fields #[.int 0 0, .int 0 0, .ref a, .int es.size 0, .int ep 0] } }) : wpAny (model prog w) A (pyIter (.ref a)) Q E s := by
  have S : SetM w o ns := ⟨hx, es, ep, t, hd, D⟩
  refine wpAny_pyIter_slot (S.type ho) PySem.F.slot_set_iter (wpAny_call_entry PySem.F.slot_set_iter (S.type ho) entry_set_iter ?_ (PySem.F.args_set_iter_1 _))
  unfold Builtin.«frozenset.__iter__» slot0
  refine wpAny_bind (wpAny_bind (m := slotArgs _ _ _) (wpAny_pure (wpAny_pure ?_)))
  refine wpAny_bind (set_size ho S ?_)
  unfold setDrawn
  refine wpAny_bind (wpAny_bind (wpAny_setState_of ho hd D.fits ?_))
  dsimp only
  refine wpAny_bind (set_byText (wpAny_pure ?_))
  have hp : (!t.plain && decide (es.size > 1)) = false := by rw [D.tab.plain]; rfl
  show wpAny _ _ (if (!byText w && (!t.plain && decide (es.size > 1))) = true then _ else _) _ _ _
  rw [if_neg (by rw [hp]; simp)]
  refine wpAny_bind (wpAny_pure ?_)
  refine wpAny_bind (wpAny_setEpoch_of ho hd D.fits ?_)
  unfold newFields
  refine wpAny_bind (wpAny_newObj_type ?_)
  refine wpAny_pure ⟨_, rfl, "set_iterator", _, ⟨_, Heap.get?_push_size _ rfl, rfl⟩, slot_si_next.lookup, ?_⟩
  rw [← D.size]
  exact h
theorem si_item {I a : Addr} {oI o : Obj} {es : Array (Int × Value)} {ep slot i : Nat} {t : SetTable} {ns : List Int} {Q : Option Value → Shared → Prop} {e : Int × Value} (hI : s.heap.get? I = some oI) (hS : SiO oI a slot i es.size ep)
    (ho : s.heap.get? a = some o) (hd : o.data = .set es ep t) (D : SetD w es t ns) (hs : byText w = false → below t.place slot = i) (he : (walkArr w a ep es)[i]? = some e)
    (h : ∀ h' oI' slot', h'.get? I = some oI' → SiO oI' a slot' (i + 1) es.size ep → (byText w = false → below t.place slot' = i + 1) → Heap.SameBut I s.heap h' → Q (some e.2) { s with heap := h' }) : wpAny (model prog w) A (pyNext (.ref I)) Q E s := by
  have hT : s.TypeIs (.ref I) "set_iterator" := ⟨oI, hI, hS.cls⟩
  unfold pyNext
  refine wpAny_bind (wpAny_attempt (wpAny_callSpecial?_slot (name := Str.ofString "__next__") hT slot_si_next (wpAny_call_entry slot_si_next hT entry_si_next ?_ (args_si_next _))))
  unfold Builtin.«set_iterator.__next__»
  refine wpAny_bind (m := slotArgs _ _ _) (wpAny_pure ?_)
  dsimp only
  refine wpAny_bind (wpAny_fieldsOf hI hS.data ?_)
  dsimp only
  refine wpAny_bind (wpAny_setEntries_of ho hd D.fits ?_)
  rw [if_neg (by simp)]
  simp only [Int.toNat_natCast]
  refine wpAny_bind (si_next ho hd D hs (fun e' slot' h1 h2 => ?_) fun q => by rw [he] at q; cases q)
  rw [he] at h1
  obtain rfl := Option.some.inj h1
  dsimp only
  refine wpAny_bind (wpAny_setField hI hS.data (by simp) ?_)
  have d1 := Obj.data_mapFields hS.data (fun vs : Array Value => vs.setIfInBounds 0 (rawInt slot'))
  have g1 := Heap.get?_update_self (Obj.mapFields (·.setIfInBounds 0 (rawInt slot'))) hI (Obj.isFreed_of_fields d1)
  refine wpAny_bind (wpAny_setField (s := { s with heap := s.heap.update I (Obj.mapFields (·.setIfInBounds 0 (rawInt slot'))) }) g1 d1 (by simp) ?_)
  have d2 := Obj.data_mapFields d1 (fun vs : Array Value => vs.setIfInBounds 1 (rawInt ((i : Int) + 1)))
  have g2 := Heap.get?_update_self (Obj.mapFields (·.setIfInBounds 1 (rawInt ((i : Int) + 1)))) g1 (Obj.isFreed_of_fields d2)
  refine wpAny_pure ⟨_, rfl, wpAny_pure (h _ _ slot' g2 ⟨(Obj.cls_mapFields ..).trans ((Obj.cls_mapFields ..).trans hS.cls), d2.trans ?_⟩ h2 ((Heap.SameBut.update ..).trans (Heap.SameBut.update ..)))⟩
  simp [rawInt]
theorem si_done {I a : Addr} {oI o : Obj} {es : Array (Int × Value)} {ep slot i : Nat} {t : SetTable} {ns : List Int} {Q : Option Value → Shared → Prop} (hh : A.handled = none) (hI : s.heap.get? I = some oI) (hS : SiO oI a slot i es.size ep)
    (ho : s.heap.get? a = some o) (hd : o.data = .set es ep t) (D : SetD w es t ns) (hs : byText w = false → below t.place slot = i) (he : (walkArr w a ep es)[i]? = none)
    (h : ∀ h', Heap.ExtBut I s.heap h' → Q none { s with heap := h' }) : wpAny (model prog w) A (pyNext (.ref I)) Q E s := by
  have hT : s.TypeIs (.ref I) "set_iterator" := ⟨oI, hI, hS.cls⟩
  unfold pyNext
  refine wpAny_bind (wpAny_attempt (wpAny_callSpecial?_slot (name := Str.ofString "__next__") hT slot_si_next (wpAny_call_entry slot_si_next hT entry_si_next ?_ (args_si_next _))))
  unfold Builtin.«set_iterator.__next__»
  refine wpAny_bind (m := slotArgs _ _ _) (wpAny_pure ?_)
  dsimp only
  refine wpAny_bind (wpAny_fieldsOf hI hS.data ?_)
  dsimp only
  refine wpAny_bind (wpAny_setEntries_of ho hd D.fits ?_)
  rw [if_neg (by simp)]
  simp only [Int.toNat_natCast]
  refine wpAny_bind (si_next ho hd D hs (fun e' slot' h1 h2 => by rw [he] at h1; cases h1) fun q => ?_)
  dsimp only
  refine wpAny_bind (wpAny_setField hI hS.data (by simp) ?_)
  refine wpAny_bind ?_
  simp only [newExc, newTuple]
  refine wpAny_bind (wpAny_newObj_type ?_ (by size_fits))
  refine wpAny_bind (m := firstArgMember _ _) (wpAny_of_eq (a := Value.none) (by first | rfl | (simp only [firstArgMember]; rfl)) ?_)
  refine wpAny_newObj_type ?_ (by size_fits)
  simp only [raiseNew]
  refine wpAny_bind (wpAny_handled ?_)
  rw [show A.in1.handled = none from hh]
  refine wpAny_bind (wpAny_pure (wpAny_throw ?_))
  refine wpAny_bind (wpAny_isInstance (T := "StopIteration") (b := true) ⟨_, Heap.get?_push_size _ rfl, rfl⟩ isSubtype_stop ?_)
  exact wpAny_pure (h _ (((Heap.SameBut.update ..).extBut.push _).push _))
theorem si_self {I a : Addr} {oI : Obj} {n ep slot i : Nat} {Q : Value → Shared → Prop} (hI : s.heap.get? I = some oI) (hS : SiO oI a slot i n ep) (h : Q (.ref I) s) : wpAny (model prog w) A (pyIter (.ref I)) Q E s := by
  have hT : s.TypeIs (.ref I) "set_iterator" := ⟨oI, hI, hS.cls⟩
  refine wpAny_pyIter_slot hT slot_si_iter (wpAny_call_entry slot_si_iter hT entry_si_iter ?_ (args_si_iter _))
  show wpAny _ _ (ret (.ref I)) _ _ s
  exact wpAny_pure ⟨_, rfl, "set_iterator", _, hT, slot_si_next.lookup, h⟩
end
end Mine
end

section
open PySem
namespace Mine
open SetTable Builtin.Frozenset PySem.W
section
variable {prog : Program} {w : World} {A : Around} {E : Value → Shared → Prop} {s : Shared}
noncomputable def freshO (led : Bool) : Obj := { cls := .type "set", dict := none, data := .set #[] 0 (.fresh 0 0 led) }
noncomputable abbrev freshSet (w : World) : Obj := freshO (!byText w)
theorem freshSet_M : SetM w (freshSet w) [] := ⟨⟨rfl, rfl, rfl⟩, #[], 0, _, rfl, fun e he => by simp at he, .nil, List.nodup_nil, fresh_ok _ _ fun q => by rw [q]; rfl⟩
theorem set_new' {Q : Value → Shared → Prop} (h : Q (.ref s.heap.objs.size) { s with heap := s.heap.push (freshSet w) }) : wpAny (model prog w) A (newSet (.type "set")) Q E s := by
  unfold newSet
  refine wpAny_bind (set_byText ?_)
  dsimp only
  simp only [newObj]
  exact wpAny_bind (wpAny_alloc (wpAny_pure h))
theorem set_code_new (as : List Value) (hc : checkBuiltinCall "set.__new__" ⟨.type "set" :: as, []⟩ = pure ()) {Q₁ : Value → Shared → Prop}
    (h : Q₁ (.ref s.heap.objs.size) { s with heap := s.heap.push (freshSet w) }) :
    codeAny (model prog w) A (.call (.builtin "set.__new__") ⟨.type "set" :: as, []⟩) (wants Q₁ E) s := by
  refine codeAny_of_tree ?_
  show wpAny _ A.in1 (do checkBuiltinCall "set.__new__" ⟨.type "set" :: as, []⟩; again (.builtin "set.__new__" ⟨.type "set" :: as, []⟩)) _ _ s
  refine wpAny_bind (wpAny_of_eq hc (wpAny_pure ⟨plainId_quiet PySem.F.plain_set_new _, codeAny_builtin PySem.F.entry_set_new ?_⟩))
  rw [Around.under_plainId PySem.F.plain_set_new _]
  unfold Builtin.«set.__new__» Builtin.Frozenset.newClass
  have hsub := PySem.sub_set_self
  generalize hN : newSet = NS
  wp_walk
  subst hN
  refine set_new' ?_
  exact wpAny_pure h
theorem set_call (as : List Value) {Q : Value → Shared → Prop} (h1 : checkTypeCall "set" ⟨as, []⟩ = pure ()) (h2 : checkBuiltinCall "set.__new__" ⟨.type "set" :: as, []⟩ = pure ())
    (h3 : ∀ (self : Value) (s : Shared) (A : Around) (Q : Unit → Shared → Prop) (E : Value → Shared → Prop), s.TypeIs self "set" → Q () s → wpAny (model prog w) A (checkBuiltinCall "set.__init__" ⟨self :: as, []⟩) Q E s)
    (h4 : wpAny (model prog w) A.in1.in1 (Builtin.«set.__init__» ⟨.ref s.heap.objs.size :: as, []⟩)
      (fun fin s' => match fin with
        | .done f => wants (fun r s₂ => r = .none ∧ Q (.ref s.heap.objs.size) s₂) E (.ok f) s'
        | .again c' => c'.quiet = true ∧ codeAny (model prog w) A.in1 c' (wants (fun r s₂ => r = .none ∧ Q (.ref s.heap.objs.size) s₂) E) s')
      (fun e s' => wants (fun r s₂ => r = .none ∧ Q (.ref s.heap.objs.size) s₂) E (.error e) s') { s with heap := s.heap.push (freshSet w) }) :
    wpAny (model prog w) A (call (.type "set") as) Q E s := by
  obtain ⟨c, tl, hmro⟩ := PySem.F.called_set.mro
  have hmade := PySem.F.called_set.made
  have hsub := PySem.F.called_set.sub
  refine wpAny_call (codeAny_of_tree ?_)
  show wpAny _ _ (callAny (.type "set") _) _ _ _
  refine wpAny_pure ⟨Code.quiet_builtin _ (by decide +kernel), codeAny_builtin PySem.F.entry_type_call ?_⟩
  rw [Around.under_plain (weight_type_call_type "set" as []) rfl]
  have hnt := PySem.F.called_set.notType
  have hcc := PySem.F.called_set.canCreate
  repeat (any_goals (first | assumption | wp_step))
  refine codeAny_mono (set_code_new as h2 (E := E) (Q₁ := fun obj s₁ => obj = .ref s.heap.objs.size ∧ s₁ = { s with heap := s.heap.push (freshSet w) }) ⟨rfl, rfl⟩) fun r s₁ hr => ?_
  cases r with
  | error e => exact hr
  | ok fl =>
    cases fl with
    | ret obj =>
      obtain ⟨rfl, rfl⟩ := hr
      have hS : (s.heap.push (freshSet w)).get? s.heap.objs.size = some (freshSet w) := Heap.get?_push_size _ rfl
      have hT : Shared.TypeIs { s with heap := s.heap.push (freshSet w) } (.ref s.heap.objs.size) "set" := ⟨_, hS, rfl⟩
      have hli := PySem.F.called_set.init.lookup
      have hbi := PySem.F.called_set.init.bind (.ref s.heap.objs.size)
      repeat (any_goals (first | assumption | wp_step))
      refine codeAny_mono (codeAny_call_builtin (R := wants (fun r s₂ => r = .none ∧ Q (.ref s.heap.objs.size) s₂) E) PySem.F.called_set.init.plain PySem.F.entry_set_init (h3 _ _ _ _ _ hT h4)) fun r₂ s₂ hr₂ => ?_
      cases r₂ with
      | error e => exact hr₂
      | ok fl₂ =>
        cases fl₂ with
        | ret r =>
          obtain ⟨rfl, hq⟩ := hr₂
          repeat (any_goals (first | assumption | wp_step))
        | _ => exact hr₂.elim
    | _ => exact hr.elim
theorem set_call0 {Q : Value → Shared → Prop} (h : Q (.ref s.heap.objs.size) { s with heap := s.heap.push (freshSet w) }) : wpAny (model prog w) A (call (.type "set") []) Q E s := by
  refine set_call [] PySem.F.typeCall_set_0 PySem.F.newCall_set_0 (fun self s A Q E hT hQ => check_set_init hT hQ) ?_
  have hS : (s.heap.push (freshSet w)).get? s.heap.objs.size = some (freshSet w) := Heap.get?_push_size _ rfl
  have hT : Shared.TypeIs { s with heap := s.heap.push (freshSet w) } (.ref s.heap.objs.size) "set" := ⟨_, hS, rfl⟩
  have hsub := PySem.sub_set_self
  unfold freshSet freshO at *
  generalize (!byText w) = led at *
  unfold Builtin.«set.__init__» noKeywords
  wp_walk
  exact ⟨rfl, h⟩
theorem upd_loop {I : Addr} {fp wr : List Addr} {G : Array GenState → Array GenState → Prop} {n : Nat} {P : Nat → Value → Prop} {St : Nat → Shared → Prop} {R : Result → Shared → Prop} (W : WalksS prog w A.in1 I fp wr G n P St) (S : Addr) (hSf : S ∉ fp)
    (val : Nat → Int) (hval : ∀ i v, P i v → ∃ t, v = .int (val i) t) (hn : n ≤ 58) :
    ∀ (k i : Nat) (s : Shared) (o : Obj) (vs : List Int), n - i = k → i ≤ n → St i s → s.heap.get? S = some o → SetM w o vs → (∀ x, x ∈ vs ↔ ∃ j, j < i ∧ val j = x) →
      (∀ s' o' vs', Moved (S :: wr) G s s' → s'.heap.get? S = some o' → SetM w o' vs' → (∀ x, x ∈ vs' ↔ ∃ j, j < n ∧ val j = x) → R (.ok (.ret .none)) s') →
      codeAny (model prog w) A (.builtin "set.update.loop" ⟨[.ref S, .ref I], []⟩) R s := by
  have hSw : S ∉ wr := fun h => hSf (W.sub _ h)
  have hsub : ∀ b ∈ wr, b ∈ S :: wr := fun b hb => List.mem_cons_of_mem _ hb
  intro k
  induction k with
  | zero =>
    intro i s o vs hk hi hst ho hS hm hR
    have hin : i = n := by lia
    subst hin
    refine codeAny_builtin PyProof.Rows.F.entry_set_update_loop ?_
    rw [Around.under_plainId PyProof.Rows.F.plain_set_update_loop _]
    show wpAny _ A.in1 (pyNext (.ref I) >>= _) _ _ s
    refine wpAny_bind (W.done s _ _ hst fun s' hm' => ?_)
    show wpAny _ A.in1 (ret Value.none) _ _ s'
    exact wpAny_pure (hR s' o vs (hm'.mono hsub) (hm'.heap S o hSw ho) hS hm)
  | succ k ih =>
    intro i s o vs hk hi hst ho hS hm hR
    have hlt : i < n := by omega
    refine codeAny_builtin PyProof.Rows.F.entry_set_update_loop ?_
    rw [Around.under_plainId PyProof.Rows.F.plain_set_update_loop _]
    show wpAny _ A.in1 (pyNext (.ref I) >>= _) _ _ s
    refine wpAny_bind (W.item i s _ _ hlt hst fun v s' hP hst' hm' => ?_)
    obtain ⟨t, rfl⟩ := hval i v hP
    have ho' := hm'.heap S o hSw ho
    have hvl : vs.length ≤ i := by
      have := sub_len hS.nd (b := (List.range i).map val) fun x hx => by
        obtain ⟨j, hj, e⟩ := (hm x).mp hx
        exact List.mem_map.mpr ⟨j, List.mem_range.mpr hj, e⟩
      simpa using this
    show wpAny _ A.in1 (holding [Value.int (val i) t] (setAdd S (.int (val i) t)) >>= _) _ _ s'
    refine wpAny_bind (wpAny_holding ?_)
    unfold setAdd
    refine wpAny_holding ?_
    refine wpAny_bind ((intKind prog w).pyHash (k := val i) (by simp [intKind, Value.isInt]) ?_)
    refine set_add (s := { s' with toks := s'.toks + 1 }) ho' hS (by lia) fun h' o' b hsb ho2 hS2 => ?_
    have hmem : ∀ x, x ∈ (if val i ∈ vs then vs else val i :: vs) ↔ ∃ j, j < i + 1 ∧ val j = x := fun x => by
      split
      · rename_i q
        rw [hm x]
        constructor
        · rintro ⟨j, hj, e⟩; exact ⟨j, by lia, e⟩
        · rintro ⟨j, hj, e⟩
          rcases Nat.lt_succ_iff_lt_or_eq.mp hj with z | rfl
          · exact ⟨j, z, e⟩
          · rw [← hm x, ← e]; exact q
      · rw [List.mem_cons, hm x]
        constructor
        · rintro (z | ⟨j, hj, e⟩)
          · exact ⟨i, Nat.lt_succ_self _, z.symm⟩
          · exact ⟨j, by omega, e⟩
        · rintro ⟨j, hj, e⟩
          rcases Nat.lt_succ_iff_lt_or_eq.mp hj with z | rfl
          · exact .inr ⟨j, z, e⟩
          · exact .inl e.symm
    refine wpAny_pure ⟨plainId_quiet PyProof.Rows.F.plain_set_update_loop _, ih (i + 1) _ o' _ (by omega) hlt (W.frame _ s' _ _ hst' (Nat.le_succ _) fun b hb o e => ?_) ho2 hS2 hmem fun s'' o'' vs'' hm'' ho3 hS3 hm3 => ?_⟩
    · exact same_get hsb (fun h : b = S => hSf (by rw [← h]; exact hb)) e
    · refine hR s'' o'' vs'' (Moved.trans W.gtrans ((hm'.mono hsub).then_heap (Nat.le_succ _) fun b o hb e => ?_) hm'') ho3 hS3 hm3
      exact same_get hsb (fun h : b = S => hb (by rw [h]; exact List.mem_cons_self)) e
theorem set_call_range {r : Addr} {a b : Int} {t u v : Tok} {Q : Value → Shared → Prop} (hh : A.handled = none) (hr : IsRange s.heap r a b 1 t u v) (ha : 0 ≤ a) (hab : b ≤ a + 58) (hb : b < 2 ^ 62) (ha' : a < 2 ^ 62) (hb0 : -(2 ^ 62) ≤ b)
    (h : ∀ h' tk o vs, h'.get? s.heap.objs.size = some o → SetM w o vs → (∀ x, x ∈ vs ↔ a ≤ x ∧ x < b) → (∀ b o, s.heap.get? b = some o → h'.get? b = some o) → Q (.ref s.heap.objs.size) { s with heap := h', toks := tk }) :
    wpAny (model prog w) A (call (.type "set") [.ref r]) Q E s := by
  refine set_call [.ref r] (PySem.F.typeCall_set_1 _) (PySem.F.newCall_set_1 _) (fun self s A Q E hT hQ => check_set_init_1 hT hQ) ?_
  have hS : (s.heap.push (freshSet w)).get? s.heap.objs.size = some (freshSet w) := Heap.get?_push_size _ rfl
  have hT : Shared.TypeIs { s with heap := s.heap.push (freshSet w) } (.ref s.heap.objs.size) "set" := ⟨_, hS, rfl⟩
  have hsub := PySem.sub_set_self
  have hr1 : IsRange (s.heap.push (freshSet w)) r a b 1 t u v := Heap.get?_push_of_some _ hr
  have hTr : Shared.TypeIs { s with heap := s.heap.push (freshSet w) } (.ref r) "range" := ⟨_, hr1, rfl⟩
  have hs1 := PySem.F.sub_range_set
  have hs2 := PySem.F.sub_range_frozenset
  have hne : (Value.type "range" == Value.type "dict") = false := by decide
  have hrs : r < s.heap.objs.size := Heap.lt_size hr
  have hsm : Builtin.Range.small a b 1 = true := small_one (by lia) ha' (by lia) hb
  have hSM := freshSet_M (w := w)
  unfold Builtin.«set.__init__» noKeywords Builtin.Frozenset.updateFrom
  generalize hPI : pyIter = PI
  unfold freshSet freshO at *
  generalize hled : (!byText w) = led at *
  wp_walk
  subst hPI
  refine wpAny_pyIter_range (s := { s with heap := s.heap.push _ }) hr1 hsm ?_
  refine wpAny_bind (wpAny_runValue ?_)
  have hI : (s.heap.push { cls := .type "set", dict := none, data := .set #[] 0 (.fresh 0 0 led) }).objs.size = s.heap.objs.size + 1 := Heap.size_push ..
  have hn : Builtin.Range.rangeSize a b 1 = ((b - a).toNat : Int) := by rw [rangeSize_one]; split <;> omega
  refine upd_loop (n := (b - a).toNat) ((Walks.range (A := A.in1.in1.in1) hh _ a 1 (b - a).toNat).toS) s.heap.objs.size (by simp [hI]) (fun i => a + i) (fun i v hP => by obtain ⟨t, e⟩ := hP; exact ⟨t, by rw [e, Int.mul_one]⟩) (by lia) _ 0 _ _ [] rfl (Nat.zero_le _) ?_ (Heap.get?_push_of_some _ hS) hSM (fun x => ?_) ?_
  · show IsRangeIter _ _ _ _ _
    rw [hn]
    have e1 : a + ((0 : Nat) : Int) * 1 = a := by lia
    have e2 : (((b - a).toNat : Nat) : Int) - ((0 : Nat) : Int) = ((b - a).toNat : Int) := by lia
    rw [e1, e2]
    exact Heap.get?_push_size _ rfl
  · constructor
    · intro q; cases q
    · rintro ⟨j, hj, _⟩; exact absurd hj (Nat.not_lt_zero _)
  · intro s' o' vs' hm ho hS' hv
    obtain ⟨h', g', d', tk', os'⟩ := s'
    have eg : g' = s.gens := hm.gens
    have ed : d' = s.drawn := hm.drawn
    have eo : os' = s.os := hm.os
    subst eg; subst ed; subst eo
    refine wpAny_pure ?_
    show wpAny _ _ (ret Value.none) _ _ _
    refine wpAny_pure ⟨rfl, h h' tk' o' vs' ho hS' (fun x => ?_) fun c o e => ?_⟩
    · rw [hv x]
      constructor
      · rintro ⟨j, hj, e⟩; lia
      · rintro ⟨h1, h2⟩; exact ⟨(x - a).toNat, by lia, by lia⟩
    · have hc := Heap.lt_size e
      exact hm.heap c o (by simp only [List.mem_cons, List.mem_singleton, List.not_mem_nil, or_false, not_or, hI]; exact ⟨Nat.ne_of_lt hc, Nat.ne_of_lt (Nat.lt_succ_of_lt hc)⟩) (Heap.get?_push_of_some _ (Heap.get?_push_of_some _ e))
end
end Mine
end

section
open PySem PySem.W PySem.Calls PyProof.Rows PyProof.Rows.LCg
namespace Mine
section
variable {prog : Program} {w : World} {c : Cfg} {A : Around} {n : Nat} {m : Loc} {led : Led} {s : Shared} {E : Value → Shared → Prop}
theorem Cx.setX {a : Addr} {o o' : Obj} {s' : Shared} (C : Cx w c A n m ((a, o) :: led) s) (he : Heap.ExtBut a s.heap s'.heap) (ho : s'.heap.get? a = some o') (hg : s'.gens = s.gens := by rfl) (hos : s'.os = s.os := by rfl) : Cx w c A n m ((a, o') :: led) s' := by
  have z := C.N (a, o) (.head _)
  refine C.step ?_ (fun p hp => ?_) C.nd hg hos
  · exact ⟨C.F.ns.at' fun o' e => he _ _ (Ne.symm z.2.1) e, fun b ob e => he b ob (fun q => by rw [q, z.2.2] at e; cases e) (C.F.keep b ob e), C.F.above⟩
  · rcases List.mem_cons.mp hp with rfl | hp
    · exact ⟨ho, z.2⟩
    · exact ⟨he _ _ (C.ne p hp) (C.N p (.tail _ hp)).1, (C.N p (.tail _ hp)).2⟩
noncomputable abbrev rangeO (a b c : Int) (t u v : Tok) : Obj := { cls := .type "range", dict := none, data := .fields #[.int a t, .int b u, .int c v], slots := #[] }
theorem b_range {a b : Int} {t u : Tok} {Q : Value → Shared → Prop} (C : Cx w c A n m led s) (h : ∀ D v s, Cx w c A n m ((D, rangeO a b 1 t u v) :: led) s → Q (.ref D) s) : wpAny (model prog w) A (call (.type "range") [.int a t, .int b u]) Q E s :=
  call_range_2 (h _ _ _ (C.new (s' := { s with heap := s.heap.push _, toks := s.toks + 1 }) (fun _ _ e => Heap.get?_push_of_some _ e) (Heap.get?_push_size _ rfl) rfl))
theorem o_range {r : Addr} {a b : Int} {t u v : Tok} {Q : Value → Shared → Prop} (C : Cx w c A n m ((r, rangeO a b 1 t u v) :: led) s) (ha : 0 ≤ a) (hab : b ≤ a + 58) (hb : b ≤ 100000) (hb0 : 0 ≤ b) (ha' : a ≤ 100000)
    (h : ∀ D o vs s, SetM w o vs → (∀ x, x ∈ vs ↔ a ≤ x ∧ x < b) → Cx w c A n m ((D, o) :: led) s → Q (.ref D) s) : wpAny (model prog w) A (call (.type "set") [.ref r]) Q E s :=
  set_call_range C.hh (C.get (.head _)) ha hab (by omega) (by lia) (by lia) fun h' tk o vs ho S hm hk => h _ o vs _ S hm (C.drop.new (s' := { s with heap := h', toks := tk }) hk ho rfl)
theorem o_set0 {Q : Value → Shared → Prop} (C : Cx w c A n m led s) (h : ∀ D o s, SetM w o [] → Cx w c A n m ((D, o) :: led) s → Q (.ref D) s) : wpAny (model prog w) A (call (.type "set") []) Q E s :=
  set_call0 (h _ _ _ freshSet_M (C.new (s' := { s with heap := s.heap.push _ }) (fun _ _ e => Heap.get?_push_of_some _ e) (Heap.get?_push_size _ rfl) rfl))
theorem Cx.newS {Q : Value → Shared → Prop} {P : Int → Prop} (C : Cx w c A n m led s) (h : ∀ D o vs s, SetM w o vs → (∀ k, k ∈ vs ↔ P k) → Cx w c A n m ((D, o) :: led) s → Q (.ref D) s) : NewSet w s P Q :=
  fun h' D o' vs hk hg e S hm => by subst e; exact h _ o' vs _ S hm (C.new (s' := { s with heap := h' }) hk hg rfl)
theorem o_sub {a b : Addr} {oA oB : Obj} {ns ms : List Int} {Q : Value → Shared → Prop} (C : Cx w c A n m led s) (ha : (a, oA) ∈ led) (SA : SetM w oA ns) (hb : (b, oB) ∈ led) (SB : SetM w oB ms) (hn : ns.length ≤ 58) (hm : ms.length ≤ 58)
    (h : ∀ D o vs s, SetM w o vs → (∀ k, k ∈ vs ↔ k ∈ ns ∧ k ∉ ms) → Cx w c A n m ((D, o) :: led) s → Q (.ref D) s) : wpAny (model prog w) A (binaryOp .Sub (.ref a) (.ref b)) Q E s :=
  set_sub (C.get ha) SA (C.get hb) SB hn hm (C.newS h)
theorem o_or {a b : Addr} {oA oB : Obj} {ns ms U : List Int} {Q : Value → Shared → Prop} (C : Cx w c A n m led s) (hne : a ≠ b) (ha : (a, oA) ∈ led) (SA : SetM w oA ns) (hb : (b, oB) ∈ led) (SB : SetM w oB ms) (hU : ∀ k, k ∈ ns ∨ k ∈ ms → k ∈ U) (hz : U.length ≤ 58)
    (h : ∀ D o vs s, SetM w o vs → (∀ k, k ∈ vs ↔ k ∈ ns ∨ k ∈ ms) → Cx w c A n m ((D, o) :: led) s → Q (.ref D) s) : wpAny (model prog w) A (binaryOp .BitOr (.ref a) (.ref b)) Q E s :=
  set_or hne (C.get ha) SA (C.get hb) SB hU hz (C.newS h)
theorem o_and {a b : Addr} {oA oB : Obj} {ns ms : List Int} {Q : Value → Shared → Prop} (C : Cx w c A n m led s) (hne : a ≠ b) (ha : (a, oA) ∈ led) (SA : SetM w oA ns) (hb : (b, oB) ∈ led) (SB : SetM w oB ms) (hn : ns.length ≤ 58) (hm : ms.length ≤ 58)
    (h : ∀ D o vs s, SetM w o vs → (∀ k, k ∈ vs ↔ k ∈ ns ∧ k ∈ ms) → Cx w c A n m ((D, o) :: led) s → Q (.ref D) s) : wpAny (model prog w) A (binaryOp .BitAnd (.ref a) (.ref b)) Q E s :=
  set_and hne (C.get ha) SA (C.get hb) SB hn hm (C.newS h)
theorem o_le {a b : Addr} {oA oB : Obj} {ns ms : List Int} {Q : Value → Shared → Prop} (C : Cx w c A n m led s) (ha : (a, oA) ∈ led) (SA : SetM w oA ns) (hb : (b, oB) ∈ led) (SB : SetM w oB ms) (hm : ms.length ≤ 58)
    (h : ∀ v, (v = true ↔ ∀ k ∈ ns, k ∈ ms) → Q (.bool v) s) : wpAny (model prog w) A (compareOp .LtE (.ref a) (.ref b)) Q E s :=
  set_le (C.get ha) SA (C.get hb) SB hm (by have := C.hu; lia) h
theorem o_len {a : Addr} {o : Obj} {ns : List Int} {Q : Value → Shared → Prop} (C : Cx w c A n m led s) (ha : (a, o) ∈ led) (S : SetM w o ns) (hz : ns.length ≤ 60) (h : ∀ t s, Cx w c A n m led s → Q (.int ns.length t) s) : wpAny (model prog w) A (call (.builtin "len") [.ref a]) Q E s := by
  obtain ⟨pre, post, rfl⟩ := List.append_of_mem ha
  obtain ⟨x, es, ep, t, hd, D⟩ := S
  refine len_sl1 (knd := intKind prog w) (S := fun k => decide (k ∈ ns)) (n := ns.length) C.N ⟨x, es, ep, t, hd, D.elems, fun k => by rw [decide_eq_true_eq]; exact D.mem k, D.size, D.fits⟩ (by lia) ?_
  exact h _ _ C.same
theorem ints_of : ∀ {vs : List Value} {ns : List Int}, vs.length = ns.length → (∀ (j : Nat) (v : Value), vs[j]? = some v → ∃ t, v = .int (ns.getD j 0) t) → IntsAre vs ns
  | [], [], _, _ => .nil
  | v :: vs, k :: ns, hl, h => by
    obtain ⟨t, e⟩ := h 0 v rfl
    subst e
    exact .cons k t (ints_of (by simpa using hl) fun j u hu => by simpa using h (j + 1) u (by simpa using hu))
theorem sort_src {T : String} {r d : Addr} {k : Nat} {P : Nat → Value → Prop} {OK : Heap → Prop} {val : List Int} {Q : Value → Shared → Prop} (C : Cx w c A n m led s) (K : KdlSrc prog w T r d k P OK) (hok : OK s.heap) (hl : val.length = k) (hP : ∀ i v, P i v → ∃ t, v = .int (val.getD i 0) t) (h64 : k < 64)
    (h : ∀ D vs ns j s, IntsAre vs ns → ns.Perm val → ns.Pairwise (· ≤ ·) → Cx w c A n m ((D, lstO vs j) :: led) s → Q (.ref D) s) : wpAny (model prog w) A (call (.builtin "sorted") [.ref r]) Q E s := by
  refine kdu_sorted K C.hh C.F C.N hok (by rw [sizeLine_eq]; lia) fun D h' tk vs F' N' l1 hlen hv => ?_
  have C' : Cx w c A n m ((D, lstO vs 0) :: led) { s with heap := h', toks := tk } := C.of_news F' N' l1
  have hI : IntsAre vs val := ints_of (by lia) fun j v e => hP j v (hv j v e)
  have ho : h'.get? D = some (seqObj "list" vs.toArray 0) := C'.get (.head _)
  refine wpAny_call_entry PyProof.Rows.slot_list_sort ⟨_, ho, rfl⟩ PyProof.Rows.entry_list_sort (list_sort_tree (s := { s with heap := h', toks := tk }) ho hI (by lia) fun out ns' a1 a2 a3 => ⟨.none, rfl, ?_⟩) (PyProof.Rows.args_list_sort _)
  obtain ⟨e, he⟩ := sortedHeap_at (vs := vs) (out := out) ho
  refine h D out.toList ns' e _ a1 a2 a3 (C'.setX (s' := { s with heap := sortedHeap h' D vs out, toks := tk }) (fun b ob hb q => ?_) (by simpa using he))
  show (sortedHeap h' D vs out).get? b = _
  rw [sortedHeap_old hb (Heap.lt_size q)]; exact q
theorem hint_set {r : Addr} {Q : Bool → Shared → Prop} (hT : s.TypeIs (.ref r) "set") (h : Q false s) : wpAny (model prog w) A (Builtin.List.listLengthHint (.ref r)) Q E s := by
  unfold Builtin.List.listLengthHint
  refine wpAny_bind (wpAny_specialOf hT PySem.F.slot_set_len.lookup ?_)
  generalize hid : ("set.__len__" : String) = id0
  wp_delta
  rw [show splitId id0 = some ("set", "__len__") from by subst hid; decide +kernel]
  subst hid
  refine wpAny_bind (wpAny_isInstance (T := "set") (b := true) hT (by rw [isSubtype_type]; kernel_rfl) ?_)
  refine wpAny_ite_split (fun hab => absurd hab (by decide)) (fun _ => ?_)
  refine wpAny_ite_split (fun _ => ?_) (fun hab => absurd (by decide +kernel) hab)
  refine wpAny_bind (wpAny_typeOf hT ?_)
  exact wpAny_pure h
theorem src_set {a : Addr} {o : Obj} {es : Array (Int × Value)} {ep : Nat} {t : SetTable} {ns : List Int} (hx : o.ExactSet) (hd : o.data = .set es ep t) (D : SetD w es t ns) :
    KdlSrc prog w "set" a a es.size (fun i v => ∃ e, (walkArr w a ep es)[i]? = some e ∧ v = e.2) (fun h => h.get? a = some o) where
  type := fun s hm => ⟨o, hm, hx.1⟩
  there := fun h hm => ⟨Heap.lt_size hm, Heap.lt_size hm⟩
  keep := fun h h' hm hk => hk a (.inl rfl) o hm
  notList := by decide
  notTuple := by decide
  hint := fun A E s Q hm hq => hint_set ⟨o, hm, hx.1⟩ hq
  iter := fun A s hh hm => by
    have hw : (walkArr w a ep es).size = es.size := perm_size (walkArr_perm w a ep es)
    refine ⟨{ cls := .type "set_iterator", data := .fields #[.int 0 0, .int 0 0, .ref a, .int es.size 0, .int ep 0] },
      fun i h => h.get? a = some o ∧ ∃ oI slot, h.get? s.heap.objs.size = some oI ∧ SiO oI a slot i es.size ep ∧ (byText w = false → SetTable.below t.place slot = i), fun E Q hq => set_iter hm hx hd D hq, ?_, ?_⟩
    · have hne : a ≠ s.heap.objs.size := Nat.ne_of_lt (Heap.lt_size hm)
      refine ⟨fun b hb => by simp at hb; simp [hb], ?_, ?_, ?_, ?_⟩
      · rintro i h h' ⟨h1, oI, slot, h2, h3⟩ hk
        exact ⟨hk a (by simp) o h1, oI, slot, hk _ (by simp) oI h2, h3⟩
      · rintro i s' Q E hi ⟨h1, oI, slot, h2, h3, h4⟩ hQ
        have hi' : i < (walkArr w a ep es).size := by lia
        refine si_item h2 h3 h1 hd D h4 (Array.getElem?_eq_getElem hi') fun h' oI' slot' g1 g2 g3 sb => ?_
        refine hQ _ h' s'.toks ⟨_, Array.getElem?_eq_getElem hi', rfl⟩ ⟨same_get sb hne h1, oI', slot', g1, g2, g3⟩ fun b ob hb e => same_get sb (fun q => hb (by simp [q])) e
      · rintro s' Q E ⟨h1, oI, slot, h2, h3, h4⟩ hQ
        exact si_done hh h2 h3 h1 hd D h4 (Array.getElem?_eq_none (by lia)) fun h' he => hQ h' s'.toks fun b ob hb e => he b ob (fun q => hb (by simp [q])) e
      · rintro i s' Q E ⟨h1, oI, slot, h2, h3, h4⟩ hQ
        exact si_self h2 h3 hQ
    · exact ⟨Heap.get?_push_of_some _ hm, _, 0, Heap.get?_push_size _ rfl, ⟨rfl, rfl⟩, fun _ => below_zero D.tab.rise⟩
theorem o_sorted {a : Addr} {o : Obj} {ns : List Int} {Q : Value → Shared → Prop} (C : Cx w c A n m led s) (ha : (a, o) ∈ led) (S : SetM w o ns) (hz : ns.length ≤ 58) (hs : ns.Pairwise (· < ·))
    (h : ∀ D vs j s, IntsAre vs ns → Cx w c A n m ((D, lstO vs j) :: led) s → Q (.ref D) s) : wpAny (model prog w) A (call (.builtin "sorted") [.ref a]) Q E s := by
  obtain ⟨x, es, ep, t, hd, D⟩ := S
  have hsz := D.size
  have hp := walkArr_perm w a ep es
  have hpk : ((walkArr w a ep es).toList.map keyOf).Perm ns := (hp.map keyOf).trans D.keys
  refine sort_src C (src_set x hd D) (C.get ha) (val := (walkArr w a ep es).toList.map keyOf) (by rw [hpk.length_eq]; exact hsz.symm) (fun i v hv => ?_) (by lia) fun D' vs ns' j s h1 h2 h3 C => ?_
  · obtain ⟨e, he, rfl⟩ := hv
    rw [← Array.getElem?_toList] at he
    obtain ⟨k, tk, e2⟩ := D.good e (hp.mem_iff.mp (List.mem_of_getElem? he))
    refine ⟨tk, ?_⟩
    rw [List.getD_eq_getElem?_getD, List.getElem?_map, he, e2]; rfl
  · have : ns' = ns := lks_uniq (h2.trans hpk) h3 (hs.imp Int.le_of_lt)
    subst this
    exact h D' vs j s h1 C
structure DcI (prog : Program) (w : World) (d : Addr) (o : Obj) (kvs : List (Int × Value)) : Prop where
  lo : (d == sysModules) = false
  is : o.IsDictOf (intKind prog w) kvs
structure DcS (prog : Program) (w : World) (d : Addr) (o : Obj) (kvs : List (Str × Value)) : Prop where
  lo : (d == sysModules) = false
  is : o.IsDictOf (strKind prog w) kvs
theorem mk_dict {env : Env} {pos : Pos} {Q : Value → Shared → Prop} (C : Cx w c A n m led s) (h : ∀ D o s, DcI prog w D o [] → Cx w c A n m ((D, o) :: led) s → Q (.ref D) s) : wpAny (model prog w) A (eval (.Dict [] [] pos) env) Q E s :=
  newDict_K C.F C.N C.TR.nolimit fun d h' o F' N' l lo _ _ hI _ => h d o _ ⟨lo, hI⟩ (C.of_news F' N' l)
theorem d_item {value slice : PySem.Expr} {d : Addr} {o : Obj} {kvs : List (Int × Value)} {k : Int} {tk : Tok} {v : Value} {Q : Value → Shared → Prop} (C : Cx w c A n m led s) (hm : (d, o) ∈ led) (hd : DcI prog w d o kvs) (hl : valueAt kvs k = some v) (h : ∀ s, Cx w c A n m led s → Q v s)
    (hs : subscripted slice false (.ref d) (.int k tk) = operate [.ref d, .int k tk] (getItem (.ref d) (.int k tk))) : wpAny (model prog w) A (subscriptTail value slice (.ref d) (.int k tk)) Q E s :=
  kdt_tail C.N hm hd.is (kdt_getItem C.N hm hd.is (intKind_is _ _ _ _) hl (h _ C.same)) hs
theorem d_itemS {value slice : PySem.Expr} {d : Addr} {o : Obj} {kvs : List (Str × Value)} {k : Str} {tk : Tok} {v : Value} {Q : Value → Shared → Prop} (C : Cx w c A n m led s) (hm : (d, o) ∈ led) (hd : DcS prog w d o kvs) (hl : valueAt kvs k = some v) (h : ∀ s, Cx w c A n m led s → Q v s)
    (hs : subscripted slice false (.ref d) (.str k tk) = operate [.ref d, .str k tk] (getItem (.ref d) (.str k tk))) : wpAny (model prog w) A (subscriptTail value slice (.ref d) (.str k tk)) Q E s :=
  kdt_tail C.N hm hd.is (kdt_getItem C.N hm hd.is (strKind_is _ _ _ _) hl (h _ C.same)) hs
theorem d_set {d : Addr} {o : Obj} {kvs : List (Int × Value)} {k : Int} {tk : Tok} {v : Value} {Q : Unit → Shared → Prop} (C : Cx w c A n m ((d, o) :: led) s) (hd : DcI prog w d o kvs) (hz : kvs.length ≤ 1000) (h : ∀ o s, DcI prog w d o (stored kvs k v) → Cx w c A n m ((d, o) :: led) s → Q () s) :
    wpAny (model prog w) A (setItem (.ref d) (.int k tk) v) Q E s :=
  kda_set C.F C.N (.head C.ne) hd.is (intKind_is _ _ _ _) (by rw [sizeLine_eq]; lia) fun h' o' F' N' hd' => h o' _ ⟨hd.lo, hd'⟩ (C.step F' N' C.nd)
theorem d_setS {d : Addr} {o : Obj} {kvs : List (Str × Value)} {k : Str} {tk : Tok} {v : Value} {Q : Unit → Shared → Prop} (C : Cx w c A n m ((d, o) :: led) s) (hd : DcS prog w d o kvs) (hz : kvs.length ≤ 1000) (h : ∀ o s, DcS prog w d o (stored kvs k v) → Cx w c A n m ((d, o) :: led) s → Q () s) :
    wpAny (model prog w) A (setItem (.ref d) (.str k tk) v) Q E s :=
  kda_set C.F C.N (.head C.ne) hd.is (strKind_is _ _ _ _) (by rw [sizeLine_eq]; lia) fun h' o' F' N' hd' => h o' _ ⟨hd.lo, hd'⟩ (C.step F' N' C.nd)
theorem d_notin {d : Addr} {o : Obj} {kvs : List (Int × Value)} {k : Int} {tk : Tok} {Q : Value → Shared → Prop} (C : Cx w c A n m led s) (hm : (d, o) ∈ led) (hd : DcI prog w d o kvs) (h : ∀ s, Cx w c A n m led s → Q (.bool (!(valueAt kvs k).isSome)) s) : wpAny (model prog w) A (compareOp .NotIn (.int k tk) (.ref d)) Q E s :=
  kdg_notin C.N hm hd.is hd.lo (intKind_is _ _ _ _) _ rfl (h _ C.same)
theorem d_get2 {d : Addr} {o : Obj} {kvs : List (Int × Value)} {k : Int} {tk : Tok} {dflt : Value} {Q : Value → Shared → Prop} (C : Cx w c A n m led s) (hm : (d, o) ∈ led) (hd : DcI prog w d o kvs) (h : ∀ s, Cx w c A n m led s → Q ((valueAt kvs k).getD dflt) s) : wpAny (model prog w) A (call (.builtin "dict.get") [.ref d, .int k tk, dflt]) Q E s :=
  kdg_get2 C.N hm hd.is hd.lo (intKind_is _ _ _ _) _ rfl (h _ C.same)
theorem dm_get {d : Addr} {o : Obj} {kvs : List (Int × Value)} {pl : Sem Bool} {Q : Value × List Value → Shared → Prop} (C : Cx w c A n m led s) (hm : (d, o) ∈ led) (hd : DcI prog w d o kvs) (h : Q (.builtin "dict.get", [.ref d]) s) : wpAny (model prog w) A (getMethod (.ref d) (Str.ofString "get") pl) Q E s := kdg_method C.N hm hd.is h
theorem dm_pop {d : Addr} {o : Obj} {kvs : List (Int × Value)} {pl : Sem Bool} {Q : Value × List Value → Shared → Prop} (C : Cx w c A n m led s) (hm : (d, o) ∈ led) (hd : DcI prog w d o kvs) (h : Q (.builtin "dict.pop", [.ref d]) s) : wpAny (model prog w) A (getMethod (.ref d) (Str.ofString "pop") pl) Q E s :=
  have hD := kda_dict C.N hm hd.is
  getMethod_builtin hD.typeIs PySem.F.plainAttrs_dict PySem.F.slot_dict_pop PySem.F.type_dict_pop hD.mapOf.noDict h
theorem d_pop {d : Addr} {o : Obj} {kvs : List (Int × Value)} {k : Int} {tk : Tok} {v : Value} {Q : Value → Shared → Prop} (C : Cx w c A n m ((d, o) :: led) s) (hd : DcI prog w d o kvs) (hl : valueAt kvs k = some v) (hz : kvs.length ≤ 1000) (h : ∀ o s, DcI prog w d o (without kvs k) → Cx w c A n m ((d, o) :: led) s → Q v s) :
    wpAny (model prog w) A (call (.builtin "dict.pop") [.ref d, .int k tk]) Q E s :=
  kob_pop C.F C.N (.head C.ne) hd.is (intKind_is _ _ _ _) (.inl rfl) rfl (PySem.F.args_dict_pop_2 _ _) hl (by rw [sizeLine_eq]; omega) fun h' o' F' N' hd' => h o' _ ⟨hd.lo, hd'⟩ (C.step F' N' C.nd)
theorem d_sorted {d : Addr} {o : Obj} {kvs : List (Int × Value)} {Q : Value → Shared → Prop} (C : Cx w c A n m led s) (hm : (d, o) ∈ led) (hd : DcI prog w d o kvs) (hz : kvs.length < 64) (hs : (kvs.map (·.1)).Pairwise (· ≤ ·))
    (h : ∀ D vs j s, IntsAre vs (kvs.map (·.1)) → Cx w c A n m ((D, lstO vs j) :: led) s → Q (.ref D) s) : wpAny (model prog w) A (call (.builtin "sorted") [.ref d]) Q E s := by
  obtain ⟨es, ep, x, hdat, hk, hp, hn⟩ := hd.is
  have hat : s.heap.DictAt (intKind prog w) d kvs ep := ⟨o, es, C.get hm, x, hdat, hk, hp, hn⟩
  refine sort_src C (kdl_dict (knd := intKind prog w) (kvs := kvs) (ep := ep) hd.lo) hat (val := kvs.map (·.1)) (by simp) (fun i v hv => ?_) hz fun D' vs ns' j s h1 h2 h3 C => ?_
  · obtain ⟨k, x, hx, hk⟩ := hv
    obtain ⟨t, rfl⟩ := Value.isInt_shape hk
    refine ⟨t, ?_⟩
    rw [List.getD_eq_getElem?_getD, List.getElem?_map, hx]; rfl
  · have : ns' = kvs.map (·.1) := lks_uniq h2 h3 hs
    subst this
    exact h D' vs j s h1 C
end
end Mine
end

section
open PySem PySem.W PySem.Calls PyProof.Rows PyProof.Rows.LCg
open Builtin Builtin.ObjectAttr
namespace Mine
section
variable {prog : Program} {w : World} {A : Around} {E : Value → Shared → Prop} {h : Heap} {g : Array GenState} {d : Drawn} {t : Nat} {os : OsState} {R : Result → Shared → Prop}
variable {nm q : Str} {C N : Addr} {bs bm bmB : List Value} {hdct : Bool} {sn : List Str} {sub : List Value} {ab : Bool} {col : Option Bool} {dd : Option Addr} {k0 k1 k2 k3 k5 : Option Value} {B newId initId : String}
theorem xc_check (F : ExcBaseFacts B newId initId bmB) (hcont : (Value.ref C :: bm).contains (.type B) = true) {M : Model} {rest : List Value} {Q : Unit → Shared → Prop} (hC : h.get? C = some (excClassObj nm q C N bs bm hdct sn sub ab col dd k0 k1 k2 k3 k5 newId))
    (hq : Q () ⟨h, g, d, t, os⟩) : wpAny M A (checkBuiltinCall newId ⟨.ref C :: rest, []⟩) Q E ⟨h, g, d, t, os⟩ := by
  have hstar := F.noStar
  simp only [checkBuiltinCall, F.newKind, F.newSplit, F.newRow]
  repeat (first | refine wpAny_loadPart_at hC ?_ | (refine wpAny_isSubtype_exc hC ?_; rw [hcont]) | refine wpAny_staticBase_exc hC ?_ | refine wpAny_madeBy_exc hC ?_ | simp only [bne_self_eq_false, Bool.false_eq_true, if_false] | wp_step)
  exact hq
theorem xc_new (F : ExcBaseFacts B newId initId bmB) (hcB : (Value.ref C :: bm).contains (.type B) = true) (hcA : (Value.ref C :: bm).contains (.type "AttributeError") = false) (hcN : (Value.ref C :: bm).contains (.type "NameError") = false)
    {rest : List Value} (hC : h.get? C = some (excClassObj nm q C N bs bm hdct sn sub ab col dd k0 k1 k2 k3 k5 newId))
    (hq : R (.ok (.ret (.ref (h.objs.size + 1)))) ⟨(h.push { cls := .type "tuple", data := .seq rest.toArray }).push
      { cls := .ref C, data := .fields #[.ref h.objs.size, .none, .none, .none, .bool false, .none] }, g, d, t, os⟩) (hrest : rest.length ≤ sizeLine) :
    codeAny (model prog w) A (.builtin newId ⟨.ref C :: rest, []⟩) R ⟨h, g, d, t, os⟩ := by
  have hends := F.ends
  refine codeAny_builtinAt F.entry ?_
  unfold Builtin.«BaseException.__new__»
  refine PySem.wpAt_bind ?_
  show PySem.wpAt _ _ _ (stack >>= _) _ _ _
  refine PySem.wpAt_bind (PySem.wpAt_stack fun p below => PySem.wpAt_of_wpAny ?_)
  wp_walk
  refine PySem.wpAt_of_wpAny ?_
  rw [F.owner]
  repeat (first | with_reducible refine wpAny_madeHere_exc F.canon hC ?_ | with_reducible refine wpAny_loadPart_at hC ?_ | (with_reducible refine wpAny_isSubtype_exc hC ?_; first | rw [hcB] | rw [hcA] | rw [hcN]) | wp_step)
  show R _ _
  rw [Heap.size_push]
  exact hq
theorem xc_type (F : ExcBaseFacts B newId initId bmB) (hcB : (Value.ref C :: bm).contains (.type B) = true) (hcA : (Value.ref C :: bm).contains (.type "AttributeError") = false) (hcN : (Value.ref C :: bm).contains (.type "NameError") = false)
    {rest : List Value} {fI : Addr} {Q : Fin → Shared → Prop} (hC : h.get? C = some (excClassObj nm q C N bs bm hdct sn sub ab col dd k0 k1 k2 k3 k5 newId))
    (hl : Looks (model prog w) h (typeLookup (.ref C) "__init__") (some (.ref fI))) (hb : ∀ self, Looks (model prog w) h (bindSpecial (.ref fI) self) (.ref fI, [self])) (hrest : rest.length ≤ sizeLine)
    (hq : wpAny (model prog w) A (call (.ref fI) (.ref (h.objs.size + 1) :: rest)) (fun r s' => r = .none ∧ Q (.done (.ret (.ref (h.objs.size + 1)))) s') E
      ⟨(h.push { cls := .type "tuple", data := .seq rest.toArray }).push { cls := .ref C, data := .fields #[.ref h.objs.size, .none, .none, .none, .bool false, .none] }, g, d, t, os⟩) :
    wpAny (model prog w) A (Builtin.«type.__call__» ⟨.ref C :: rest, []⟩) Q E ⟨h, g, d, t, os⟩ := by
  repeat (first | with_reducible refine wpAny_loadPart_at hC ?_ | with_reducible refine wpAny_madeBy_exc hC ?_ | wp_step)
  refine codeAny_call_builtin_code (Code.quiet_builtin _ F.quiet) (xc_check F hcB hC ?_)
  refine xc_new F hcB hcA hcN hC ?_ hrest
  show wpAny _ _ _ _ _ _
  have k : ∀ b o, h.get? b = some o → ((h.push { cls := .type "tuple", data := .seq rest.toArray }).push { cls := .ref C, data := .fields #[.ref h.objs.size, .none, .none, .none, .bool false, .none] }).get? b = some o :=
    fun b o e => Heap.get?_push_of_some _ (Heap.get?_push_of_some _ e)
  have hC₁ := k _ _ hC
  have hget : ((h.push { cls := .type "tuple", data := .seq rest.toArray }).push
      { cls := .ref C, data := .fields #[.ref h.objs.size, .none, .none, .none, .bool false, .none] }).get? (h.objs.size + 1) = some
      { cls := .ref C, data := .fields #[.ref h.objs.size, .none, .none, .none, .bool false, .none] } := by heap_get
  have hcC : (Value.ref C :: bm).contains (.ref C) = true := by simp
  unfold isInstance
  repeat (first | with_reducible refine wpAny_loadPart_at hget ?_ | (with_reducible refine wpAny_isSubtype_exc hC₁ ?_; rw [hcC]) | wp_step)
  show wpAny _ _ (typeLookup (.ref C) _) _ _ _
  refine (hl.keeps k).here ?_
  refine wpAny_holding (wpAny_bind ((((hb (.ref (h.objs.size + 1))).keeps k)).here ?_))
  refine wpAny_bind (wpAny_mono hq (fun r s' hr => ?_) fun _ _ x => x)
  obtain ⟨rfl, hQ⟩ := hr
  wp_walk
  exact hQ
theorem xc_call (F : ExcBaseFacts B newId initId bmB) (hcB : (Value.ref C :: bm).contains (.type B) = true) (hcA : (Value.ref C :: bm).contains (.type "AttributeError") = false) (hcN : (Value.ref C :: bm).contains (.type "NameError") = false)
    {rest : List Value} {fI : Addr} {Q : Value → Shared → Prop} (hC : h.get? C = some (excClassObj nm q C N bs bm hdct sn sub ab col dd k0 k1 k2 k3 k5 newId))
    (hl : Looks (model prog w) h (typeLookup (.ref C) "__init__") (some (.ref fI))) (hb : ∀ self, Looks (model prog w) h (bindSpecial (.ref fI) self) (.ref fI, [self])) (hrest : rest.length ≤ sizeLine)
    (hq : wpAny (model prog w) (A.under (.builtin "type.__call__" ⟨.ref C :: rest, []⟩)) (call (.ref fI) (.ref (h.objs.size + 1) :: rest)) (fun r s' => r = .none ∧ Q (.ref (h.objs.size + 1)) s') E
      ⟨(h.push { cls := .type "tuple", data := .seq rest.toArray }).push { cls := .ref C, data := .fields #[.ref h.objs.size, .none, .none, .none, .bool false, .none] }, g, d, t, os⟩) :
    wpAny (model prog w) A (call (.ref C) rest) Q E ⟨h, g, d, t, os⟩ := by
  have f1 := tc_lookup
  have f2 := PySem.tc_bind (.ref C)
  have hT : (⟨h, g, d, t, os⟩ : Shared).TypeIs (.ref C) "type" := ⟨_, hC, rfl⟩
  refine wpAny_call (codeAny_of_tree ?_)
  show wpAny _ _ (callAny (.ref C) _) _ _ _
  repeat (any_goals (first | assumption | with_reducible refine wpAny_loadPart_at hC ?_ | wp_step))
  refine ⟨rfl, ?_⟩
  exact codeAny_call_builtin_at (Code.quiet_builtin _ (by decide +kernel)) entry_typeCall (wpAny_check_type_call_sub hC (xc_type F hcB hcA hcN hC hl hb hrest hq))
end
end Mine
end

section
open PySem PySem.W PySem.Calls PyProof.Rows PyProof.Rows.LCg
open Builtin Builtin.ObjectAttr
namespace Mine
noncomputable abbrev bm51 : List Value := [.ref 38, .type "Exception", .type "BaseException", .type "object"]
theorem cls51 {P : Params} {Q : Prop} (h : ∀ nm q C N bs hdct sn sub ab col dd k0 k1 k2 k3 k5 nw, (KH P).lookup 51 = some (excClassObj nm q C N bs bm51 hdct sn sub ab col dd k0 k1 k2 k3 k5 nw) → nw = "Exception.__new__" → C = 51 → hdct = true → Q) : Q :=
  h _ _ _ _ _ _ _ _ _ _ _ _ _ _ _ _ _ (by k_is) rfl rfl rfl
noncomputable abbrev xO (t : Addr) : Obj := { cls := .ref 51, data := .fields #[.ref t, .none, .none, .none, .bool false, .none] }
structure ExO (oe : Obj) : Prop where
  cls : oe.cls = .ref 51
  data : ∃ ws a0, oe.data = .fields ws ∧ ws[0]? = some a0 ∧ ws[1]? = some .none
section
variable {prog : Program} {w : World} {c : Cfg} {A : Around} {n : Nat} {m : Loc} {led : Led} {s : Shared} {E : Value → Shared → Prop}
theorem Cx.cls51 {Q : Prop} (C : Cx w c A n m led s) (h : ∀ nm q N bs sn sub ab col dd k0 k1 k2 k3 k5, s.heap.get? 51 = some (excClassObj nm q 51 N bs bm51 true sn sub ab col dd k0 k1 k2 k3 k5 "Exception.__new__") → Q) : Q :=
  Mine.cls51 (P := w.params) fun nm q C' N bs hdct sn sub ab col dd k0 k1 k2 k3 k5 nw e e1 e2 e3 => by
    subst e1 e2 e3; exact h _ _ _ _ _ _ _ _ _ _ _ _ _ _ (C.Xs _ _ e)
theorem xc_checkinit {h : Heap} {g : Array GenState} {d : Drawn} {t : Nat} {os : OsState} {nm q : Str} {N : Addr} {bs : List Value} {sn : List Str} {sub : List Value} {ab : Bool} {col : Option Bool} {dd : Option Addr} {k0 k1 k2 k3 k5 : Option Value}
    {M : Model} {e : Addr} {oe : Obj} {rest : List Value} {Q : Unit → Shared → Prop}
    (hC : h.get? 51 = some (excClassObj nm q 51 N bs bm51 true sn sub ab col dd k0 k1 k2 k3 k5 "Exception.__new__")) (he : h.get? e = some oe) (hcls : oe.cls = .ref 51) (hq : Q () ⟨h, g, d, t, os⟩) :
    wpAny M A (checkBuiltinCall "Exception.__init__" ⟨.ref e :: rest, []⟩) Q E ⟨h, g, d, t, os⟩ := by
  have F := PySem.F.excBase_Exception
  have hcB : (Value.ref 51 :: bm51).contains (.type "Exception") = true := by decide
  have hshort := F.noStar
  simp only [checkBuiltinCall, F.initKind, F.initSplit, F.initRow]
  repeat (first | (with_reducible refine wpAny_loadPart_at he ?_; rw [hcls]) | with_reducible refine wpAny_loadPart_at hC ?_ | (with_reducible refine wpAny_isSubtype_exc hC ?_; rw [hcB]) | wp_step)
  refine wpAny_onRaise ?_
  rw [show ∀ (a b : String) (n : Nat), Bind.check ⟨.positional, "*", "Exception", .self, [⟨"args", .varPos, false⟩]⟩ a b n (List.map (fun x => x.fst) ({ pos := Value.ref e :: rest } : Args).kw) = pure () from
    fun a b n => check_star_args _ _ _ _ _ _]
  exact wpAny_pure hq
theorem xc_init {e t : Addr} {v : Value} {Q : Value → Shared → Prop} (C : Cx w c A n m ((e, xO t) :: led) s) (h : ∀ t' s, Cx w c A n m ((e, xO t') :: led) s → Q .none s) :
    wpAny (model prog w) A (call (.builtin "Exception.__init__") [.ref e, v]) Q E s := by
  refine C.cls51 fun nm q N bs sn sub ab col dd k0 k1 k2 k3 k5 hC => ?_
  have he := C.get (.head _)
  have F := PySem.F.excBase_Exception
  obtain ⟨hp, g, d, tk, os⟩ := s
  refine wpAny_call (codeAny_call_builtin F.init.plain F.initEntry (xc_checkinit hC he rfl ?_))
  wp_walk
  refine h hp.objs.size _ (C.setX (s' := ⟨_, g, d, tk, os⟩) (fun b ob hb hg => ?_) ?_)
  · rw [Heap.get?_update_other _ _ (Ne.symm hb)]; exact Heap.get?_push_of_some _ hg
  · rw [Heap.get?_update_self _ (Heap.get?_push_of_some _ he) rfl]; rfl
theorem xc_why {e t : Addr} {v : Value} {Q : Unit → Shared → Prop} (C : Cx w c A n m ((e, xO t) :: led) s) (h : ∀ oe s, ExO oe → Cx w c A n m ((e, oe) :: led) s → Q () s) :
    wpAny (model prog w) A (setAttr (.ref e) (Str.ofString "why") v) Q E s := by
  have he := C.get (.head _)
  have I : InstAt s.heap e (xO t) 51 none := ⟨he, rfl, rfl, trivial⟩
  refine set_plain C.Xs I (by k_is) ?_
  refine C.cls51 fun nm q N bs sn sub ab col dd k0 k1 k2 k3 k5 hC => ?_
  have SF := PySem.F.store_Exception
  have hsub : Looks (model prog w) s.heap (isInstance (.ref e) (.type "object")) true := I.type.andThen fun A' Q' E' s' hk hq => by
    obtain ⟨hp, g, d, tk, os⟩ := s'
    refine wpAny_isSubtype_exc (hk _ _ hC) ?_
    rw [show (Value.ref 51 :: bm51).contains (.type "object") = true from by decide]
    exact hq
  refine codeAny_call_builtin SF.slot.plain SF.entry (@check_slot (model prog w) _ _ { s with toks := s.toks + 1 } "object.__setattr__" "object" "__setattr__" (.ref e) [.str (Str.ofString "why") s.toks, v] [] _ SF.kind SF.split hsub (SF.args (.ref e) (.str (Str.ofString "why") s.toks) v) ?_)
  have hl : Looks (model prog w) s.heap (typeLookup (.ref 51) (Str.ofString "why")) none := looks_findIn C.Xs (by k_is)
  have hty : Looks (model prog w) s.heap (typeOf (.ref e)) (.ref 51) := I.type
  rw [osa_eq, refuse_eq]
  obtain ⟨hp, g, d, tk, os⟩ := s
  refine wpAny_bind (wpAny_bind (hty _ _ _ _ (fun _ _ e => e) (wpAny_bind (wpAny_mroOf_exc hC ?_))))
  rw [refuseLoop_ref, refuseLoop_ref, SF.passes]
  refine wpAny_pure (wpAny_bind (hty _ _ _ _ (fun _ _ e => e) (wpAny_bind (hl _ _ _ _ (fun _ _ e => e) (wpAny_bind (wpAny_pure ?_))))))
  show wpAny _ _ (storeInOwnDict (.ref e) (.ref 51) _ _ v _) _ _ _
  unfold storeInOwnDict
  refine wpAny_bind (m := ownStreamTells _ _) (wpAny_pure ?_)
  rw [if_neg (by decide)]
  dsimp only
  refine wpAny_bind (m := ownDictForStores (.ref e)) ?_
  unfold ownDictForStores instanceDict storeInDict newKeyGuard
  generalize hNS : nsSet = NS
  repeat (first | with_reducible refine wpAny_loadPart_at he ?_ | with_reducible refine wpAny_loadPart_at hC ?_ | wp_step)
  subst hNS
  have hx₁ : (hp.push { cls := .type "dict", data := .dict #[] }).get? e = some (xO t) := Heap.get?_push_of_some _ he
  have hxs : e ≠ hp.objs.size := Nat.ne_of_lt (Heap.lt_size he)
  have hgd : ((hp.push { cls := .type "dict", data := .dict #[] }).update e fun o => { cls := o.cls, dict := some hp.objs.size, data := o.data, slots := o.slots }).get? hp.objs.size = some { cls := .type "dict", data := .dict #[] } :=
    (Heap.get?_update_ne _ _ _ _ hxs.symm).trans (Heap.get?_push_at rfl rfl)
  have hnd : ((hp.push { cls := .type "dict", data := .dict #[] }).update e fun o => { cls := o.cls, dict := some hp.objs.size, data := o.data, slots := o.slots }).Ns hp.objs.size (fun _ => none) :=
    ⟨_, #[], _, hgd, rfl, fun e he => absurd he (by simp), fun _ => rfl⟩
  refine wpAny_nsSet1 (Heap.Ns1.of_empty hnd) fun h' hn' hs => ?_
  obtain ⟨oD, esD, epD, hoD, hdD, hcD⟩ := hn'.count (Within.cons (Str.ofString "why") v Within.nil)
  refine wpAny_bind (wpAny_lookBehind hoD (by rw [hdD]; exact pastItsLine_dict (Nat.le_trans hcD (by rw [List.length_cons, List.length_nil, sizeLine_eq]; lia))) ?_)
  wp_walk
  refine h { xO t with dict := some hp.objs.size } _ ⟨rfl, _, _, rfl, rfl, rfl⟩ (C.setX (s' := ⟨h', g, d, _, os⟩) (fun b ob hb hg => ?_) ?_)
  · exact (hs.2 b (Nat.ne_of_lt (Heap.lt_size hg))).trans ((Heap.get?_update_ne _ _ _ _ hb).trans (Heap.get?_push_of_some _ hg))
  · exact (hs.2 e hxs).trans (Heap.get?_update_self _ hx₁ rfl)
theorem xc_pf {e t : Addr} {why : Str} {tk : Tok} {Q : Value → Shared → Prop} (C : Cx w c A (n + 1) m ((e, xO t) :: led) s) (K : ∀ oe s, ExO oe → Cx w c A (n + 1) m ((e, oe) :: led) s → Q .none s) :
    wpAny (model prog w) A (call (.ref 35) [.ref e, .str why tk]) Q E s := by
  refine enter0 (binds := [(Str.ofString "self", .ref e), (Str.ofString "why", .str why tk)]) C (by k_is) (by k_is) (BindsTo.of_eq rfl) (locs rfl) (fun c A E s C Qr kQ => ?_) rfl rfl rfl (by decide)
  refine wpAny_execs_cons ?_
  refine wpAny_Expr_any ?_
  refine MethodCall_ ?_
  refine nm_b C (by k_is) (by boot_fast) ?_ (by decide) rfl rfl (by decide)
  have hf : findCls (KH w.params) (.type "Exception") (.type "type") (Str.ofString "__init__") = some (.val (.builtin "Exception.__init__")) := by k_is
  with_reducible refine method_type C.F C.X ?_ ?_ hf ?_ ?_
  · kernel_rfl
  · kernel_rfl
  · rfl
  have C := C.same (s' := { s with toks := s.toks + 1 })
  refine PyProof.Rows.callWith_builtin1 ?_
  refine spliced_more ?_
  refine nm_l C (by rfl) ?_ rfl rfl (by decide)
  refine spliced_more ?_
  refine nm_l C (by rfl) ?_ rfl rfl (by decide)
  refine spliced_none ?_
  refine xc_init C fun t' s C => ?_
  refine wpAny_execs_cons ?_
  refine plainObj_wpAny_Assign_Attribute ?_ (by with_unfolding_all rfl)
  refine nm_l C (by rfl) ?_ rfl rfl (by decide)
  refine nm_l C (by rfl) ?_ rfl rfl (by decide)
  refine xc_why C fun oe s ho C => ?_
  refine wpAny_execs_nil ?_
  exact kQ _ _ _ _ C (fun C => K oe _ ho C)
theorem Cx.make {K : Addr} {vals : List Value} {kw : List (Str × Value)} (C : Cx w c A (n + 1) m led s) : Cx w c (A.under (.builtin "type.__call__" ⟨.ref K :: vals, kw⟩)) n m led s :=
  ⟨C.B, C.F, C.N, C.nd, C.X, C.T, C.hA ▸ rfl, C.hf, C.hk, C.hh, by have := C.hd; show A.depth + 1 + _ < _; lia, by have := C.hu; show A.units + 1 + _ < _; lia, C.hg, C.ho⟩
theorem Cx.unmake {A' : Around} {n' : Nat} {s' : Shared} {led' : Led} {m' : Loc} (C' : Cx w c A' n' m' led' s') (C : Cx w c A n m led s) : Cx w c A n m' led' s' :=
  ⟨C'.B, C'.F, C'.N, C'.nd, C'.X, C'.T, C.hA, C'.hf, C'.hk, C.hh, C.hd, C.hu, C'.hg, C'.ho⟩
theorem x_call {why : Str} {tk : Tok} {Q : Value → Shared → Prop} (C : Cx w c A (n + 2) m led s) (K : ∀ e oe s, ExO oe → Cx w c A (n + 2) m ((e, oe) :: led) s → Q (.ref e) s) :
    wpAny (model prog w) A (call (.ref 51) [.str why tk]) Q E s := by
  refine C.cls51 fun nm q N bs sn sub ab col dd k0 k1 k2 k3 k5 hC => ?_
  have hl : Looks (model prog w) s.heap (typeLookup (.ref 51) "__init__") (some (.ref 35)) := looks_findIn C.Xs (by k_is)
  have hb : ∀ self, Looks (model prog w) s.heap (bindSpecial (.ref 35) self) (.ref 35, [self]) := fun self => bind_fn C.Xs self (by k_is)
  obtain ⟨hp, g, d, tk', os⟩ := s
  refine xc_call PySem.F.excBase_Exception (by decide) (by decide) (by decide) hC hl hb (by rw [sizeLine_eq]; exact Nat.le_of_ble_eq_true rfl) ?_
  have C1 : Cx w c A (n + 2) m ((hp.objs.size, { cls := .type "tuple", data := .seq [Value.str why tk].toArray }) :: led) ⟨hp.push { cls := .type "tuple", data := .seq [Value.str why tk].toArray }, g, d, tk', os⟩ :=
    C.new (fun _ _ e => Heap.get?_push_of_some _ e) (Heap.get?_push_size _ rfl) rfl
  have C2 : Cx w c A (n + 2) m ((hp.objs.size + 1, xO hp.objs.size) :: (hp.objs.size, { cls := .type "tuple", data := .seq [Value.str why tk].toArray }) :: led) ⟨(hp.push { cls := .type "tuple", data := .seq [Value.str why tk].toArray }).push (xO hp.objs.size), g, d, tk', os⟩ :=
    C1.new (s' := ⟨(hp.push { cls := .type "tuple", data := .seq [Value.str why tk].toArray }).push (xO hp.objs.size), g, d, tk', os⟩) (fun _ _ e => Heap.get?_push_of_some _ e) (Heap.get?_push_at (by rw [Heap.size_push]) rfl) (by show _ = (hp.push _).objs.size; rw [Heap.size_push])
  refine xc_pf (C2.swap.drop.make) fun oe s ho C' => ⟨rfl, K _ oe s ho (C'.unmake C)⟩
end
end Mine
end

section
open PySem PySem.W PySem.Calls PyProof.Rows PyProof.Rows.LCg
namespace Mine
section
variable {prog : Program} {w : World} {c : Cfg} {A : Around} {n : Nat} {m : Loc} {led : Led} {s : Shared} {E : Value → Shared → Prop}
theorem x_raiseStmt {M : Model} {env : Env} {x : Sem Value} {Q : Flow → Shared → Prop} (hh : A.handled = none)
    (h : wpAny M A x (fun v s₁ => ∃ e oe nm q N bs sn sub ab col dd k0 k1 k2 k3 k5, v = .ref e ∧ s₁.heap.get? 51 = some (excClassObj nm q 51 N bs bm51 true sn sub ab col dd k0 k1 k2 k3 k5 "Exception.__new__") ∧ s₁.heap.get? e = some oe ∧ ExO oe ∧ E (.ref e) s₁) E s) :
    wpAny M A (raiseStmt env (some x) none) Q E s := by
  unfold raiseStmt
  refine wpAny_bind (wpAny_mono h (fun v s₁ h₁ => ?_) fun _ _ x => x)
  obtain ⟨e, oe, nm, q, N, bs, sn, sub, ab, col, dd, k0, k1, k2, k3, k5, rfl, hC, he, ⟨hcls, ws, a0, hws, h0, h1⟩, hE⟩ := h₁
  obtain ⟨oc, od, odt, osl⟩ := oe
  dsimp only at hcls hws
  subst hcls hws
  have hcB : (Value.ref 51 :: bm51).contains (.type "BaseException") = true := by decide
  obtain ⟨hp, g, d, tk, os⟩ := s₁
  repeat (first | with_reducible refine wpAny_loadPart_at he ?_ | with_reducible refine wpAny_loadPart_at hC ?_ | (with_reducible refine wpAny_isSubtype_exc hC ?_; rw [hcB]) | wp_step)
  rw [h1]
  refine wpAny_pure ?_
  rw [if_neg (by decide)]
  exact wpAny_pure (wpAny_raiseNew_none hh hE)
theorem x_raise {nm : Str} {sc : Scope} {a : Addr} {cd : Value} {np cpos pos p : Pos} {why : Str} {k : Nat} {Q : Flow → Shared → Prop} (C : Cx w c A (n + 2) m led s)
    (hE : ∀ e oe s, ExO oe → Cx w c A (n + 2) m ((e, oe) :: led) s → E (.ref e) s)
    (hk : sc.kind = .function) (hl : (envOf nm sc c.L a cd).kindOf (Str.ofString "Misused") = some .globalImplicit) :
    wpAny (model prog w) A (exec (.Raise (some (.Call (.Name (Str.ofString "Misused") np) [.Constant (.str why) k p] [] cpos)) none pos) (envOf nm sc c.L a cd)) Q E s := by
  rw [arm_exec_Raise]
  refine wpAny_bind (wpAny_standAt ?_)
  show wpAny _ _ (raiseStmt _ (some (eval _ _ >>= fun v => standAt _ >>= fun _ => pure v)) none) _ _ _
  refine x_raiseStmt C.hh (wpAny_bind ?_)
  refine Call_ ?_
  refine nm_g C (by k_is) ?_ hk hl (by decide)
  refine cw_more C (by k_is) ?_
  refine spliced_more ?_
  refine k_str C fun t s C => ?_
  refine spliced_none ?_
  refine ⟨C.Xs, ?_⟩
  refine x_call C fun e oe s ho C => ?_
  refine C.cls51 fun nm q N bs sn sub ab col dd k0 k1 k2 k3 k5 hC => ?_
  exact wpAny_bind (wpAny_standAt (wpAny_pure ⟨e, oe, nm, q, N, bs, sn, sub, ab, col, dd, k0, k1, k2, k3, k5, rfl, hC, C.get (.head _), ho, hE e oe s ho C⟩))
end
end Mine
end

section
open PySem PySem.W PySem.Calls PyProof.Rows PyProof.Rows.LCg
namespace Mine
inductive Raised (base : Heap) (l : List Env) (e : Addr) (led : Led) (h : Heap) : Prop where
  | mk (B : Heap) (a0 : Value) (st : base.StaysIn B) (hl : ∀ q ∈ led, B.get? q.1 = some q.2 ∧ base.get? q.1 = none) (he : B.get? e = none) (fl : Heap.FlyingW B l e (.ref 51) a0 h)
structure XP (c : Cfg) (m : Loc) (led : Led) (e : Addr) (s : Shared) : Prop where
  up : Raised c.base (c.env :: c.outer) e led s.heap
  fr : ∃ g, Fr c.h₀ c.L g m ∧ g.UpToSlots s.heap
  nd : (led.map (·.1)).Nodup
  hg : s.gens = c.g₀
  ho : s.os = c.o₀
section
variable {prog : Program} {w : World} {c : Cfg} {A : Around} {n : Nat} {m : Loc} {led : Led} {s : Shared} {E : Value → Shared → Prop}
theorem stays_none {base h : Heap} (k : base.StaysIn h) {b : Addr} (e : h.get? b = none) : base.get? b = none := by
  cases q : base.get? b with
  | none => rfl
  | some o => have := k b o q; rw [e] at this; cases this
theorem x_leave {M : Model} {e : Addr} {oe : Obj} {nm : Str} {sc : Scope} {a : Addr} {cd : Value} {P : Shared → Prop} (C : Cx w c A n m ((e, oe) :: led) s) (ho : ExO oe) (hA : A = c.A₀.deeper (envOf nm sc c.L a cd)) (hk : sc.kind = .function)
    (k : ∀ s', Raised c.base c.outer e led s'.heap → c.h₀.UpToSlots s'.heap → s'.gens = c.g₀ → s'.os = c.o₀ → P s') :
    wpAny M A (leaving (envOf nm sc c.L a cd) (.ref e)) (fun _ s' => P s') E s := by
  subst hA
  have K' := C.B.push (name := nm) (scope := sc) (a := a) (cd := cd) C.F hk
  have he := C.get (.head _)
  have hbe : c.base.get? e = none := stays_none C.B.stays (C.N _ (.head _)).2.2
  have hin : ∀ env ∈ (envOf nm sc c.L a cd :: c.outer), ∀ b, env.frame = some b → b ∈ e :: (envOf nm sc c.L a cd :: c.outer).filterMap (·.frame) := fun env he b hb => .tail _ (List.mem_filterMap.mpr ⟨env, he, hb⟩)
  have st : c.base.StaysIn (hideAll s.heap (e :: (envOf nm sc c.L a cd :: c.outer).filterMap (·.frame))) := fun b o q => hideAll_get _ (K'.stays b o q) fun hm => by
    rcases List.mem_cons.mp hm with rfl | hm
    · rw [hbe] at q; cases q
    · rw [(K'.frames.mem hm).1] at q; cases q
  have hl : ∀ q ∈ led, (hideAll s.heap (e :: (envOf nm sc c.L a cd :: c.outer).filterMap (·.frame))).get? q.1 = some q.2 ∧ c.base.get? q.1 = none := fun q hq => by
    have N := C.N q (.tail _ hq)
    refine ⟨hideAll_get _ N.1 fun hm => ?_, stays_none C.B.stays N.2.2⟩
    rcases List.mem_cons.mp hm with z | hm
    · exact C.ne q hq z
    · obtain ⟨env, he, hf⟩ := List.mem_filterMap.mp hm
      rcases List.mem_cons.mp he with rfl | he
      · exact N.2.1 (Option.some.inj hf).symm
      · obtain ⟨o, ho, _⟩ := (C.B.frames.mem (List.mem_filterMap.mpr ⟨env, he, hf⟩)).2
        rw [N.2.2] at ho; cases ho
  obtain ⟨ws, a0, hd, h0, h1⟩ := ho.data
  have hen : (hideAll s.heap (e :: (envOf nm sc c.L a cd :: c.outer).filterMap (·.frame))).get? e = none := hideAll_none _ (.head _)
  refine wpAny_leaving_firstW K'.stack (funFrames_hide K'.frames hin) rfl he (fun b o q => of_hideAll _ q) hen hd h1 h0 fun h' hL => ?_
  obtain ⟨k1, ⟨_, _, k2⟩, k3, k4⟩ := hL
  rw [ho.cls] at k3
  exact k { s with heap := h' } ⟨_, a0, st, hl, hen, k1, hen, k2, k3⟩ ((Heap.UpToSlots.of_keeps C.F.keep).trans k4) C.hg C.ho
theorem x_leaveOn {M : Model} {e : Addr} {nm : Str} {sc : Scope} {a : Addr} {cd : Value} {P : Shared → Prop} {c : Cfg} {s : Shared} (X : XP c m led e s) (hA : A = c.A₀.deeper (envOf nm sc c.L a cd)) (hst : c.A₀.frames = some c.outer) (henv : c.env = envOf nm sc c.L a cd)
    (k : ∀ s', Raised c.base c.outer e led s'.heap → c.h₀.UpToSlots s'.heap → s'.gens = c.g₀ → s'.os = c.o₀ → P s') :
    wpAny M A (leaving (envOf nm sc c.L a cd) (.ref e)) (fun _ s' => P s') E s := by
  subst hA
  obtain ⟨B, a0, hB, hl, hen, hfl⟩ := X.up
  obtain ⟨g, F, hs⟩ := X.fr
  rw [henv] at hfl
  refine wpAny_leaves_onW (Around.frames_deeper hst) rfl hfl fun h' x1 x2 => ?_
  exact k { s with heap := h' } ⟨B, a0, hB, hl, hen, x1⟩ ((Heap.UpToSlots.of_keeps F.keep).trans (hs.trans x2)) X.hg X.ho
noncomputable def UpX (w : World) (c : Cfg) (A : Around) (led : Led) (v : Value) (s : Shared) : Prop :=
  (∃ e oe n m, v = .ref e ∧ ExO oe ∧ Cx w c A n m ((e, oe) :: led) s) ∨ ∃ e m, v = .ref e ∧ XP c m led e s
theorem enterX {Q : Value → Shared → Prop} {name qual : Str} {params : Arguments} {body : List Stmt} {scope : Scope} {dV kV doc pm cdv ct oc : Value} {an od : Option Addr} {osl : Array (Option Value)} {f : Addr} {pos : List Value} {kw : List (Str × Value)} {binds : List (Str × Value)}
    (C : Cx w c A (n + 1) m led s)
    (ho : (KH w.params).lookup f = some ⟨oc, od, .func (fnOf name qual params body scope dV kV doc pm an cdv ct), osl⟩) (hcd : codeIn (KH w.params) cdv qual = true)
    (hbind : BindsTo s (fnOf name qual params body scope dV kV doc pm an cdv ct) ⟨pos, kw⟩ binds) (hloc : ∀ y ∈ binds, scope.names.lookup y.1 = some .local)
    (h : ∀ c' A' s₁, Cx w c' A' n (binds0 binds) led s₁ → ∀ (Qr : Flow → Shared → Prop) (Er : Value → Shared → Prop), (∀ fl s' m' led', Cx w c' A' n m' led' s' → (Cx w c A (n + 1) m led' s' → Q (fin fl) s') → Qr fl s') → (∀ v s', UpX w c' A' led v s' → Er v s') →
      wpAny (model prog w) A' (execs body (envOf qual scope c'.L f cdv)) Qr Er s₁)
    (hE : ∀ e s', XP c m led e s' → E (.ref e) s')
    (hco : scope.isCoroutine = false) (hgen : scope.isGenerator = false) (hk : scope.kind = .function) (hcell : ∀ x ∈ scope.names, x.2 ≠ .cell) :
    wpAny (model prog w) A (call (.ref f) pos kw) Q E s := by
  refine wpAny_call ?_
  refine code_def C.B C.F C.X C.N C.T C.hA C.hf C.hk ho hcd (by have := C.hd; lia) hbind hloc (fun g L' h₁ FG F' N' B' X' T' => ?_) hco hgen hk hcell
  let c' : Cfg := ⟨A, c.base, g, c.env :: c.outer, envOf qual scope L' f cdv, L', c.p, c.loose, c.mean, c.mg, c.mb, c.g₀, c.o₀⟩
  have C' : Cx w c' (A.deeper (envOf qual scope L' f cdv)) n (binds0 binds) led { s with heap := h₁, toks := s.toks + binds.length } :=
    ⟨B', F', N', C.nd, X', T', Around.frames_deeper C.hA, rfl, hk, C.hh, by have := C.hd; show A.depth + 1 + _ < _; lia, by have := C.hu; show A.units + 3 + _ < _; lia, C.hg, C.ho⟩
  refine wpAny_mono (h c' _ _ C' _ _ (fun _ _ m' led' C k => (⟨m', led', C, k⟩ : ∃ m' led', Cx w c' _ n m' led' _ ∧ (Cx w c A (n + 1) m led' _ → Q (fin _) _))) fun _ _ q => q) (fun fl s' q => ?_) fun v s' q => ?_
  · obtain ⟨m', led', C₁, k⟩ := q
    refine ⟨L', m', led', C₁.F, C₁.N, fun F₂ N₂ => ?_⟩
    exact k ⟨C.B, F₂, N₂, C₁.nd, C.X, C.T, C.hA, C.hf, C.hk, C.hh, C.hd, C.hu, C₁.hg, C₁.ho⟩
  · have up : ∀ e s'', Raised c.base (c.env :: c.outer) e led s''.heap → g.UpToSlots s''.heap → s''.gens = c.g₀ → s''.os = c.o₀ → E (.ref e) s'' := fun e s'' r1 r2 r3 r4 => hE e s'' ⟨r1, ⟨g, FG, r2⟩, C.nd, r3, r4⟩
    rcases q with ⟨e, oe, n', m', rfl, hoe, C₁⟩ | ⟨e, m', rfl, X⟩
    · exact x_leave (c := c') C₁ hoe rfl hk fun s'' r1 r2 r3 r4 => up e s'' r1 r2 r3 r4
    · exact x_leaveOn (c := c') X rfl C.hA rfl fun s'' r1 r2 r3 r4 => up e s'' r1 r2 r3 r4
end
end Mine
end

section
open PySem PySem.W PySem.Calls PyProof.Rows PyProof.Rows.LCg
namespace Mine
structure TC (w : World) (c : Cfg) (m : Loc) (A : Around) (c' : Cfg) : Prop where
  b : c.base = c.h₀
  out : c.outer = []
  base : c'.base = c.base
  a0 : c'.A₀ = A
  outer : c'.outer = [c.env]
  X : (KH w.params).In c.h₀
  T : Top c.p c.loose c.mean c.mg c.mb c.h₀
  top : c'.p = c.p ∧ c'.loose = c.loose ∧ c'.mean = c.mean ∧ c'.mg = c.mg ∧ c'.mb = c.mb
  gs : c'.g₀ = c.g₀ ∧ c'.o₀ = c.o₀
  stays : c.h₀.StaysIn c'.h₀
  above : c.h₀.objs.size ≤ c.L
  frame : c.env.frame = some c.L
  own : ∃ oL es ep, c'.h₀.get? c.L = some oL ∧ oL.data = .dict es ep ∧ ∀ (h : Heap) sl, h.get? c.L = some { oL with slots := sl } → h.Ns c.L m
  only : ∀ b o, c'.h₀.get? b = some o → c.h₀.get? b = some o ∨ b = c.L
section
variable {prog : Program} {w : World} {c : Cfg} {A : Around} {n : Nat} {m : Loc} {led : Led} {s : Shared} {E : Value → Shared → Prop}
theorem Ns_slots {h : Heap} {a : Addr} {m : Loc} (hn : h.Ns a m) : ∃ oL es ep, h.get? a = some oL ∧ oL.data = .dict es ep ∧ ∀ (h' : Heap) sl, h'.get? a = some { oL with slots := sl } → h'.Ns a m := by
  obtain ⟨oL, es, ep, hL, hd, hk, hf⟩ := hn
  exact ⟨oL, es, ep, hL, hd, fun h' sl e => ⟨_, es, ep, e, hd, hk, hf⟩⟩
theorem TC.home {c' : Cfg} {A' : Around} {n' : Nat} {m' : Loc} {s s' : Shared} {led' : Led} (t : TC w c m A c') (C : Cx w c A n m led s) (C' : Cx w c' A' n' m' led' s') : Cx w c A n m led' s' := by
  obtain ⟨oL, es, ep, hL, _, hns⟩ := t.own
  have hL' : s'.heap.get? c.L = some oL := C'.F.keep _ _ hL
  refine ⟨C.B, ⟨hns _ oL.slots hL', fun b o e => C'.F.keep _ _ (t.stays b o e), C.F.above⟩, fun p hp => ?_, C'.nd, C.X, C.T, C.hA, C.hf, C.hk, C.hh, C.hd, C.hu, C'.hg.trans t.gs.1, C'.ho.trans t.gs.2⟩
  have z := C'.N p hp
  refine ⟨z.1, fun q => ?_, stays_none t.stays z.2.2⟩
  rw [q, hL] at z; cases z.2.2
theorem enterT {Q : Value → Shared → Prop} {name qual : Str} {params : Arguments} {body : List Stmt} {scope : Scope} {dV kV doc pm cdv ct oc : Value} {an od : Option Addr} {osl : Array (Option Value)} {f : Addr} {pos : List Value} {kw : List (Str × Value)} {binds : List (Str × Value)}
    (C : Cx w c A (n + 1) m led s) (hb : c.base = c.h₀) (hou : c.outer = [])
    (ho : (KH w.params).lookup f = some ⟨oc, od, .func (fnOf name qual params body scope dV kV doc pm an cdv ct), osl⟩) (hcd : codeIn (KH w.params) cdv qual = true)
    (hbind : BindsTo s (fnOf name qual params body scope dV kV doc pm an cdv ct) ⟨pos, kw⟩ binds) (hloc : ∀ y ∈ binds, scope.names.lookup y.1 = some .local)
    (h : ∀ c' A' s₁, TC w c m A c' → A' = A.deeper (envOf qual scope c'.L f cdv) → c'.env = envOf qual scope c'.L f cdv → Cx w c' A' n (binds0 binds) led s₁ →
      ∀ (Qr : Flow → Shared → Prop), (∀ fl s' c'' m' led', TC w c m A c'' → Cx w c'' A' n m' led' s' → (Cx w c A (n + 1) m led' s' → Q (fin fl) s') → Qr fl s') →
      wpAny (model prog w) A' (execs body (envOf qual scope c'.L f cdv)) Qr (fun _ _ => False) s₁)
    (hco : scope.isCoroutine = false) (hgen : scope.isGenerator = false) (hk : scope.kind = .function) (hcell : ∀ x ∈ scope.names, x.2 ≠ .cell) :
    wpAny (model prog w) A (call (.ref f) pos kw) Q E s := by
  refine wpAny_call ?_
  refine codeAny_call_def (fd := fnOf name qual params body scope dV kV doc pm an cdv ct) (body := body) (binds := binds) (by have := C.hd; lia) (C.Xs _ _ ho) rfl (C.T.nolimit.keeps C.F.keep) (codeRec_of C.Xs hcd) rfl hbind hcell hloc (fun h₁ hns hk₁ => ?_) hco hgen hk
  obtain ⟨oL, es, ep, hL, hLd, hLns⟩ := Ns_slots C.F.ns
  let as : List Addr := (List.range s.heap.objs.size).filter fun b => (c.h₀.get? b).isNone && b != c.L
  have has : ∀ b, b ∈ as ↔ b < s.heap.objs.size ∧ c.h₀.get? b = none ∧ b ≠ c.L := fun b => by
    simp only [as, List.mem_filter, List.mem_range, Bool.and_eq_true, Option.isNone_iff_eq_none, bne_iff_ne, ne_eq]
  have hL0 : c.h₀.get? c.L = none := Heap.get?_none_of_le C.F.above
  have st : c.h₀.StaysIn (hideAll s.heap as) := fun b o e => hideAll_get _ (C.F.keep b o e) fun q => by
    rw [((has b).mp q).2.1] at e; cases e
  have hLg : (hideAll s.heap as).get? c.L = some oL := hideAll_get _ hL fun q => ((has _).mp q).2.2 rfl
  have B₁ := C.B
  have hfr : (hideAll s.heap as).FunFrames c.base [c.env] := by
    refine Heap.FunFrames.cons (m := m) (by rw [C.hk]; decide) C.hf (hLns _ oL.slots hLg) ?_ trivial
    rw [hb]; exact hL0
  let c' : Cfg := ⟨A, c.base, hideAll s.heap as, [c.env], envOf qual scope s.heap.objs.size f cdv, s.heap.objs.size, c.p, c.loose, c.mean, c.mg, c.mb, c.g₀, c.o₀⟩
  have t : TC w c m A c' := ⟨hb, hou, rfl, rfl, rfl, C.X, C.T, ⟨rfl, rfl, rfl, rfl, rfl⟩, ⟨rfl, rfl⟩, st, C.F.above, C.hf, ⟨oL, es, ep, hLg, hLd, hLns⟩, fun b o e => by
    by_cases q : b = c.L
    · exact .inr q
    · cases z : c.h₀.get? b with
      | some o' =>
        have y := C.F.keep b o' z
        rw [of_hideAll _ e] at y
        cases y
        exact .inl rfl
      | none =>
        have : b ∈ as := (has b).mpr ⟨Heap.lt_size (of_hideAll _ e), z, q⟩
        rw [hideAll_none _ this] at e; cases e⟩
  have C' : Cx w c' (A.deeper (envOf qual scope s.heap.objs.size f cdv)) n (binds0 binds) led { s with heap := h₁, toks := s.toks + binds.length } := by
    refine ⟨⟨?_, fun b o e => st b o (by rw [← hb]; exact e), hfr⟩, ⟨hns, fun b o e => hk₁ b o (of_hideAll _ e), Nat.le_of_eq (hideAll_size _ _)⟩, fun p hp => ?_, C.nd, C.X.keeps st, C.T.keeps st, ?_, rfl, hk, C.hh, ?_, ?_, C.hg, C.ho⟩
    · show A.frames = some [c.env]
      rw [C.hA, hou]
    · have z := C.N p hp
      exact ⟨hk₁ _ _ z.1, Nat.ne_of_lt (Heap.lt_size z.1), hideAll_none _ ((has _).mpr ⟨Heap.lt_size z.1, z.2.2, z.2.1⟩)⟩
    · show (A.deeper _).frames = some (_ :: [c.env])
      rw [← hou]
      exact Around.frames_deeper C.hA
    · have := C.hd; show A.depth + 1 + _ < _; lia
    · have := C.hu; show A.units + 3 + _ < _; lia
  refine wpAny_mono (h c' _ _ t rfl rfl C' _ fun _ _ c'' m' led' t C k => (⟨c'', m', led', t, C, k⟩ : ∃ c'' m' led', TC w c m A c'' ∧ Cx w c'' _ n m' led' _ ∧ (Cx w c A (n + 1) m led' _ → Q (fin _) _))) (fun fl s' q => ?_) fun _ _ q => q.elim
  obtain ⟨c'', m', led', t', C₁, k⟩ := q
  exact k (t'.home C C₁)
theorem TC.redo {c' : Cfg} {A' : Around} {n' : Nat} {m' : Loc} {s₀ s' : Shared} {h₆ B G : Heap} {oL oL' : Obj} {es : Array DictEntry} {ep : Nat}
    (t : TC w c m A c') (C' : Cx w c' A' n' m' led s₀) (hL : c'.h₀.get? c.L = some oL) (hd1 : oL'.data = oL.data) (hd2 : oL.data = .dict es ep) (hns : ∀ (h : Heap) sl, h.get? c.L = some { oL' with slots := sl } → h.Ns c.L m)
    (hself : G.get? c.L = some oL') (hoth : ∀ b, b ≠ c.L → G.get? b = c'.h₀.get? b) (hsz : G.objs.size = c'.h₀.objs.size) (hL6 : h₆.get? c.L = some oL') (hB : c.h₀.StaysIn B) (hB6 : B.StaysIn h₆)
    (hn : h₆.Ns c'.L m') (hled : ∀ q ∈ led, B.get? q.1 = some q.2) (hBL : B.get? c'.L = none) (nd : (led.map (·.1)).Nodup) (hg : s'.gens = c'.g₀) (ho : s'.os = c'.o₀) (hs : s'.heap = h₆) :
    TC w c m A { c' with h₀ := G } ∧ Cx w { c' with h₀ := G } A' n' m' led s' := by
  subst hs
  have hLnone : c.h₀.get? c.L = none := Heap.get?_none_of_le t.above
  have stc : c.h₀.StaysIn G := fun b o q => (hoth b fun z => by rw [z, hLnone] at q; cases q).trans (t.stays b o q)
  have tc : TC w c m A { c' with h₀ := G } := ⟨t.b, t.out, t.base, t.a0, t.outer, t.X, t.T, t.top, t.gs, stc, t.above, t.frame, ⟨oL', es, ep, hself, hd1.trans hd2, hns⟩, fun b o q => by
    by_cases z : b = c.L
    · exact .inr z
    · exact t.only b o ((hoth b z).symm.trans q)⟩
  refine ⟨tc, ?_⟩
  obtain ⟨tp, tl, tm, tg, tb⟩ := t.top
  have T'' : Top c'.p c'.loose c'.mean c'.mg c'.mb G := by
    rw [tp, tl, tm, tg, tb]; exact t.T.keeps stc
  have X'' : (KH w.params).In G := fun a o e => stc _ _ (t.X a o e)
  have B'' : Below c'.A₀ c'.base c'.outer G := by
    refine ⟨C'.B.stack, fun b o q => stc b o (by rw [← t.b, ← t.base]; exact q), ?_⟩
    refine Heap.FunFrames.of_keeps (fun b o q _ => ?_) C'.B.frames
    by_cases z : b = c.L
    · have : oL = o := by rw [z, hL] at q; exact Option.some.inj q
      exact ⟨oL', by rw [z]; exact hself, by rw [← this]; exact hd1⟩
    · exact ⟨o, (hoth b z).trans q, rfl⟩
  have F'' : Fr G c'.L s'.heap m' := by
    refine ⟨hn, fun b o q => ?_, by rw [hsz]; exact C'.F.above⟩
    by_cases z : b = c.L
    · rw [z, hself] at q; rw [z, ← q]; exact hL6
    · have q' : c'.h₀.get? b = some o := (hoth b z).symm.trans q
      rcases t.only b o q' with y | y
      · exact hB6 _ _ (hB _ _ y)
      · exact absurd y z
  have N'' : News G c'.L s'.heap led := fun p hp => by
    refine ⟨hB6 _ _ (hled p hp), fun z => ?_, ?_⟩
    · have y := hled p hp
      rw [z, hBL] at y; cases y
    · have z := (C'.N p hp).2.2
      have hne : p.1 ≠ c.L := fun y => by rw [y, hL] at z; cases z
      exact (hoth _ hne).trans z
  exact ⟨B'', F'', N'', nd, X'', T'', C'.hA, C'.hf, C'.hk, C'.hh, C'.hd, C'.hu, hg, ho⟩
theorem x_catch {c' : Cfg} {A' : Around} {n' : Nat} {m' : Loc} {s₀ s' : Shared} {e : Addr} {nm : Str} {sc : Scope} {a : Addr} {cd : Value} {np pos : Pos} {b₀ : Stmt} {suite : List Stmt} {rest : List ExceptHandler} {Q : Flow → Shared → Prop}
    (t : TC w c m A c') (C' : Cx w c' A' n' m' led s₀) (hA : A' = A.deeper (envOf nm sc c'.L a cd)) (henv : c'.env = envOf nm sc c'.L a cd) (X : XP c' m' led e s')
    (k : ∀ c'' s'', TC w c m A c'' → c''.L = c'.L → c''.env = c'.env → Cx w c'' A' n' m' led s'' →
      wpAny (model prog w) (A'.mark (some (.ref e))) (execs (b₀ :: suite) (envOf nm sc c'.L a cd)) Q (fun _ _ => False) s'')
    (hk : sc.kind = .function) (hl : (envOf nm sc c'.L a cd).kindOf (Str.ofString "Misused") = some .globalImplicit) :
    wpAny (model prog w) A' (noteFrame (.ref e) (envOf nm sc c'.L a cd)) (fun _ s₂ => wpAny (model prog w) A' (setFlight (.ref e) none) (fun _ s₃ =>
      wpAny (model prog w) A' (handleBy (.ref e) (envOf nm sc c'.L a cd) (.ExceptHandler (some (.Name (Str.ofString "Misused") np)) none (b₀ :: suite) pos :: rest)) Q (fun _ _ => False) s₃) (fun _ _ => False) s₂) (fun _ _ => False) s' := by
  subst hA
  obtain ⟨B, a0, hB, hled, hen, hfl⟩ := X.up
  rw [henv, t.outer] at hfl
  obtain ⟨g, Fg, hsm⟩ := X.fr
  have hst : A.frames = some [c.env] := by have := C'.B.stack; rwa [t.a0, t.outer] at this
  have hBL : B.get? c'.L = none := by
    obtain ⟨_, ⟨L', _, hf, hn', _⟩, _⟩ := hfl.2.2.1
    obtain rfl : c'.L = L' := Option.some.inj hf
    exact hn'
  have hbase : c.h₀.StaysIn B := fun b o q => hB b o (by rw [t.base, t.b]; exact q)
  refine wpAny_looks_onW (Around.frames_deeper hst) rfl hfl fun h₄ hheld₄ hsm₄ => ?_
  refine wpAny_landsW hheld₄ fun h₅ hheld hsm₅' => ?_
  have hsm₅ := hsm₄.trans hsm₅'
  have F₅ : Fr c.h₀ c'.L h₅ m' := ⟨(hsm.trans hsm₅).ns Fg.ns, fun b o q => hheld.1 b o (hbase b o q), by
    obtain ⟨oL, _, _, hL, _⟩ := t.own
    exact Nat.le_trans t.above (Nat.le_trans (Nat.le_of_lt (Heap.lt_size hL)) C'.F.above)⟩
  obtain ⟨ob, hob, hobc⟩ := hheld.there
  have TR : TopRead c.p c.loose c.mg c.mb c.h₀ := topRead_of t.T
  refine wpAny_handleBy_cons (codeAny_handlers_test (name_K F₅ t.X TR (by k_is) ?_ hk hl (by decide))) (by intro q; cases q)
  refine cls51 (P := w.params) fun nm q C' N bs hdct sn sub ab col dd k0 k1 k2 k3 k5 nw e0 e1 e2 e3 => ?_
  subst e1 e2 e3
  have hC : h₅.get? 51 = _ := F₅.keep _ _ (t.X _ _ e0)
  refine wpAny_excMatches_sub_self hC hob hobc (by decide) (codeAny_handlers_suite ?_)
  refine lands_againW hheld fun h₆ hfl₆ hsm₆ => ?_
  have up : g.UpToSlots h₆ := (hsm.trans hsm₅).trans hsm₆
  obtain ⟨oL, es, ep, hL, hLd, hLns⟩ := t.own
  obtain ⟨sl, hL6⟩ := up c.L oL (Fg.keep _ _ hL) fun vs q => by rw [hLd] at q; cases q
  have hfree : ({ oL with slots := sl } : Obj).isFreed = false := by obtain ⟨_, _, dt, _⟩ := oL; dsimp only at hLd; subst hLd; rfl
  have hself : (c'.h₀.update c.L fun o => { o with slots := sl }).get? c.L = some { oL with slots := sl } := Heap.get?_update_self _ hL hfree
  have hoth : ∀ b, b ≠ c.L → (c'.h₀.update c.L fun o => { o with slots := sl }).get? b = c'.h₀.get? b := fun b hb => Heap.get?_update_ne _ _ _ _ hb
  obtain ⟨tc, C''⟩ := t.redo (oL' := { oL with slots := sl }) (s' := { s' with heap := h₆ }) C' hL rfl hLd (fun h' sl' q => hLns h' sl' q) hself hoth (Heap.size_update ..) hL6 hbase hfl₆.1 (up.ns Fg.ns) (fun q hq => (hled q hq).1) hBL X.nd X.hg X.ho rfl
  exact wpAny_passesOwnAt PassesOwnAt.never (k _ _ tc rfl rfl C'')
end
end Mine
end

section
open PySem PySem.W PySem.Calls PyProof.Rows PyProof.Rows.LCg
namespace Mine
noncomputable def Kp (as : List Addr) (led led' : Led) : Prop := ∀ p ∈ led, p.1 ∉ as → p ∈ led'
theorem Kp.rfl' (as : List Addr) (led : Led) : Kp as led led := fun _ h _ => h
theorem Kp.of_sub {as : List Addr} {led led' : Led} (h : ∀ p ∈ led, p ∈ led') : Kp as led led' := fun p hp _ => h p hp
theorem Kp.trans {as bs cs : List Addr} {l1 l2 l3 : Led} (h : Kp as l1 l2) (g : Kp bs l2 l3) (ha : ∀ a ∈ as, a ∈ cs) (hb : ∀ b ∈ bs, b ∈ cs) : Kp cs l1 l3 := fun p hp hn => g p (h p hp fun q => hn (ha _ q)) fun q => hn (hb _ q)
noncomputable def Mut (o : Obj) : Prop := o.cls ≠ .type "tuple" ∧ o.cls ≠ .ref 186 ∧ ∀ hs tk l k, o ≠ rgDict hs tk l k
theorem Mut.list (vs : List Value) (k : Nat) : Mut (lstO vs k) := ⟨by simp, by simp, fun hs tk l k h => absurd (congrArg Obj.cls h) (by simp [dictOf, PySem.W.listOf])⟩
inductive RgV (led : Led) (r l : Addr) (rows : Rows) : Prop where
  | mk (items : List Value) (k : Nat) (R : RgSt led r l items k rows)
theorem RowsV.kp {as : List Addr} {led led' : Led} (h : Kp as led led') (hd : ∀ t vs j, (t, tupO vs j) ∈ led → t ∉ as) : ∀ {vs : List Value} {ps : Rows}, RowsV led vs ps → RowsV led' vs ps
  | [], [], _ => trivial
  | _ :: _, _ :: _, x => ⟨let ⟨t, k1, k2, j, e, hm⟩ := x.1; ⟨t, k1, k2, j, e, h _ hm (hd _ _ _ hm)⟩, RowsV.kp h hd x.2⟩
section
variable {prog : Program} {w : World} {c : Cfg} {A : Around} {n : Nat} {m : Loc} {led : Led} {s : Shared} {E : Value → Shared → Prop}
theorem Cx.one {a : Addr} {o o' : Obj} (C : Cx w c A n m led s) (h : (a, o) ∈ led) (g : (a, o') ∈ led) : o = o' := by
  have x := C.get h
  have y := C.get g
  rw [x] at y; exact Option.some.inj y
theorem Cx.diff {a b : Addr} {o o' : Obj} (C : Cx w c A n m led s) (h : (a, o) ∈ led) (g : (b, o') ∈ led) (hne : o.cls ≠ o'.cls) : a ≠ b := fun q => by
  subst q; exact hne (congrArg Obj.cls (C.one h g))
theorem RgSt.kp {r l : Addr} {items : List Value} {k : Nat} {rows : Rows} {led' : Led} {as : List Addr} (R : RgSt led r l items k rows) (C : Cx w c A n m led s) (h : Kp as led led')
    (has : ∀ a ∈ as, ∃ o, (a, o) ∈ led ∧ Mut o) (hl : l ∉ as) : RgSt led' r l items k rows := by
  obtain ⟨dx, hs, tk, j, h1, h2⟩ := R.hr
  refine ⟨⟨dx, hs, tk, j, h _ h1 fun q => ?_, h _ h2 fun q => ?_⟩, h _ R.hl hl, R.hv.kp h (fun t vs j hm q => ?_), R.hg⟩
  · obtain ⟨o, ho, hc⟩ := has _ q
    exact hc.2.1 (by rw [← C.one h1 ho])
  · obtain ⟨o, ho, hc⟩ := has _ q
    exact hc.2.2 _ _ _ _ (C.one h2 ho).symm
  · obtain ⟨o, ho, hc⟩ := has _ q
    exact hc.1 (by rw [← C.one hm ho])
theorem RgV.kp {r l : Addr} {rows : Rows} {led' : Led} {as : List Addr} (R : RgV led r l rows) (C : Cx w c A n m led s) (h : Kp as led led') (has : ∀ a ∈ as, ∃ o, (a, o) ∈ led ∧ Mut o) (hl : l ∉ as) : RgV led' r l rows :=
  let ⟨i, k, R⟩ := R; ⟨i, k, R.kp C h has hl⟩
theorem RgV.mono {r l : Addr} {rows : Rows} {led' : Led} (R : RgV led r l rows) (h : ∀ p ∈ led, p ∈ led') : RgV led' r l rows := let ⟨i, k, R⟩ := R; ⟨i, k, R.mono h⟩
theorem cls_new {K fI : Addr} {pos : List Value} {Q : Value → Shared → Prop} (C : Cx w c A (n + 1) m led s) (hm : makesIn (KH w.params) K = true) (hi : findIn (KH w.params) (.ref K) "__init__" = some (some (.ref fI))) (hf : isFn (KH w.params) (.ref fI) = true)
    (h : ∀ x dx s, Cx w c (A.under (.builtin "type.__call__" ⟨.ref K :: pos, []⟩)) n m ((x, instObj K dx) :: (dx, dictOf [] 0) :: led) s →
      codeAny (model prog w) (A.under (.builtin "type.__call__" ⟨.ref K :: pos, []⟩)) (.call (.ref fI) ⟨.ref x :: pos, []⟩) (InitBack x fun r s' => match r with | .ok (.ret v) => Q v s' | .ok _ => False | .error e => E e s') s) :
    wpAny (model prog w) A (call (.ref K) pos) Q E s := by
  refine call_cls C.F C.X C.N hm hi hf fun x dx h' F' N' l1 l2 => ?_
  refine h x dx _ (Cx.make (C.step (s' := { s with heap := h' }) F' N' ?_))
  rw [List.map_cons, List.map_cons, List.nodup_cons, List.nodup_cons]
  refine ⟨fun q => ?_, fun q => ?_, C.nd⟩
  · rcases List.mem_cons.mp q with q | q
    · exact absurd q (Nat.ne_of_gt l2)
    · obtain ⟨p, hp, e⟩ := List.mem_map.mp q
      have := l1 p hp
      rw [e] at this; exact absurd (Nat.lt_trans this l2) (Nat.lt_irrefl _)
  · obtain ⟨p, hp, e⟩ := List.mem_map.mp q
    have := l1 p hp
    rw [e] at this; exact absurd this (Nat.lt_irrefl _)
theorem enterI {R : Result → Shared → Prop} {name qual : Str} {params : Arguments} {body : List Stmt} {scope : Scope} {dV kV doc pm cdv ct oc : Value} {an od : Option Addr} {osl : Array (Option Value)} {f : Addr} {pos : List Value} {kw : List (Str × Value)} {binds : List (Str × Value)}
    (C : Cx w c A (n + 1) m led s)
    (ho : (KH w.params).lookup f = some ⟨oc, od, .func (fnOf name qual params body scope dV kV doc pm an cdv ct), osl⟩) (hcd : codeIn (KH w.params) cdv qual = true)
    (hbind : BindsTo s (fnOf name qual params body scope dV kV doc pm an cdv ct) ⟨pos, kw⟩ binds) (hloc : ∀ y ∈ binds, scope.names.lookup y.1 = some .local)
    (h : ∀ c' A' E' s₁, Cx w c' A' n (binds0 binds) led s₁ → ∀ Qr : Flow → Shared → Prop, (∀ fl s' m' led', Cx w c' A' n m' led' s' → (Cx w c A (n + 1) m led' s' → R (.ok (.ret (fin fl))) s') → Qr fl s') →
      wpAny (model prog w) A' (execs body (envOf qual scope c'.L f cdv)) Qr E' s₁)
    (hco : scope.isCoroutine = false) (hgen : scope.isGenerator = false) (hk : scope.kind = .function) (hcell : ∀ x ∈ scope.names, x.2 ≠ .cell) :
    codeAny (model prog w) A (.call (.ref f) ⟨pos, kw⟩) R s := by
  refine code_def C.B C.F C.X C.N C.T C.hA C.hf C.hk ho hcd (by have := C.hd; lia) hbind hloc (fun g L' h₁ FG F' N' B' X' T' => ?_) hco hgen hk hcell
  have C' : Cx w ⟨A, c.base, g, c.env :: c.outer, envOf qual scope L' f cdv, L', c.p, c.loose, c.mean, c.mg, c.mb, c.g₀, c.o₀⟩ (A.deeper (envOf qual scope L' f cdv)) n (binds0 binds) led { s with heap := h₁, toks := s.toks + binds.length } :=
    ⟨B', F', N', C.nd, X', T', Around.frames_deeper C.hA, rfl, hk, C.hh, by have := C.hd; show A.depth + 1 + _ < _; lia, by have := C.hu; show A.units + 3 + _ < _; lia, C.hg, C.ho⟩
  refine wpAny_mono (h _ _ _ _ C' _ fun _ _ m' led' C k => (⟨m', led', C, k⟩ : ∃ m' led', Cx w _ _ n m' led' _ ∧ (Cx w c A (n + 1) m led' _ → R (.ok (.ret (fin _))) _))) (fun fl s' q => ?_) fun _ _ q => q
  obtain ⟨m', led', C₁, k⟩ := q
  refine ⟨L', m', led', C₁.F, C₁.N, fun F₂ N₂ => ?_⟩
  exact k ⟨C.B, F₂, N₂, C₁.nd, C.X, C.T, C.hA, C.hf, C.hk, C.hh, C.hd, C.hu, C₁.hg, C₁.ho⟩
theorem st_attr {K x dx : Addr} {nm : Str} {v : Value} {es : List DictEntry} {j : Nat} {Q : Unit → Shared → Prop} (C : Cx w c A n m ((dx, dictOf es j) :: led) s) (hx : (x, instObj K dx) ∈ led)
    (hs : findIn (KH w.params) (.ref K) "__setattr__" = some (some (.builtin "object.__setattr__"))) (hp : plainOver (KH w.params) K = true) (ht : takerIn (KH w.params) K nm = some none) (hh : hasDictIn (KH w.params) K = true)
    (hl : (getL nm es).isSome = true) (hz : ∀ hk, (putL nm hk (.str nm (s.toks + 1)) v es).length ≤ 1000)
    (h : ∀ hk tk s, Cx w c A n m ((dx, dictOf (putL nm hk (.str nm tk) v es) (putN nm es j)) :: led) s → Q () s) : wpAny (model prog w) A (setAttr (.ref x) nm v) Q E s :=
  set_dict C.F C.X C.N (InstAt.of_news C.N (.tail _ hx) (.head _)) rfl hs hp ht hh hl rfl (.head C.ne) (hz _) fun h' F' N' => h _ _ _ (C.step (s' := { s with heap := h', toks := s.toks + 2 }) F' N' C.nd)
end
end Mine
end

section
open PySem PySem.W PySem.Calls PyProof.Rows PyProof.Rows.LCg
namespace Mine
section
variable {prog : Program} {w : World} {c : Cfg} {A : Around} {n : Nat} {m : Loc} {led : Led} {s : Shared} {E : Value → Shared → Prop}
theorem iter_tup {t : Addr} {items : Array Value} {Q : Value → Shared → Prop} (C : Cx w c A n m led s) (ht : s.heap.IsTuple t items) (h : ∀ I o s, (o.cls = .type "tuple_iterator" ∧ o.data = .fields #[.ref t, .int 0 0]) → s.heap.IsTuple t items → Cx w c A n m ((I, o) :: led) s → Q (.ref I) s) : wpAny (model prog w) A (pyIter (.ref t)) Q E s :=
  wpAny_pyIter_tuple ht (h _ _ _ ⟨rfl, rfl⟩ (ht.at fun _ e => Heap.get?_push_of_some _ e) (C.new (s' := { s with heap := s.heap.push _ }) (fun _ _ e => Heap.get?_push_of_some _ e) (Heap.get?_push_size _ rfl) rfl))
theorem for_tup0 {target : PySem.Expr} {I t : Addr} {o : Obj} {body orelse : List Stmt} {env : Env} {R : Result → Shared → Prop} (C : Cx w c A n m ((I, o) :: led) s) (hI : o.cls = .type "tuple_iterator" ∧ o.data = .fields #[.ref t, .int 0 0]) (ht : s.heap.IsTuple t #[])
    (done : ∀ s E', Cx w c A n m led s → wpAny (model prog w) A (execs orelse env) (fun f s => R (.ok f) s) E' s) :
    codeAny (model prog w) A (.forLoop target (.ref I) body orelse env) R s := by
  refine codeAny_loop' rfl (fun d s => Cx w c A n m ((I, o) :: led) s ∧ s.heap.IsTuple t #[]) (fun d s IH => ?_) 0 ⟨C, ht⟩
  obtain ⟨C, ht⟩ := IH
  show wpAny _ _ ((forTurn target (.ref I) body orelse env).onRaise (fun x => do noteFrame x env; theTreesLotGoes x)) _ _ s
  refine wpAny_noted ?_
  simp only [forTurn]
  refine wpAny_bind (wpAny_standAt (wpAny_bind (wpAny_onRaise ?_)))
  refine wpAny_pyNext_tuple_end C.hh ⟨o, C.get (.head _), hI.1, hI.2⟩ ht (by simp) fun h' he => ?_
  exact wpAny_pure (.inr ⟨rfl, codeAny_block (done _ _ (C.forget (s' := { s with heap := h' }) he))⟩)
end
end Mine
end

section
open PySem PySem.W PySem.Calls PyProof.Rows PyProof.Rows.LCg
namespace Mine
theorem CellsAre.fst {cm : Str → Option Value} : ∀ {names : List (Str × Addr)} {cells : List (Addr × Obj)}, CellsAre cm names cells → cells.map (·.1) = names.map (·.2) := by
  intro names cells h
  induction h with
  | nil => rfl
  | cons _ _ ih => simp only [List.map_cons, ih]
section
variable {prog : Program} {w : World} {c : Cfg} {A : Around} {n : Nat} {m : Loc} {led : Led} {s : Shared} {E : Value → Shared → Prop}
theorem nm_lC {nm : Str} {sc : Scope} {a : Addr} {cd : Value} {x : Str} {pos : Pos} {v : Value} {Q : Value → Shared → Prop} (C : Cx w c A n m led s) (hv : m x = some v) (k : Q v s)
    (hk : sc.kind = .function) (hl : (envOfC nm sc c.L a cd).kindOf x = some .local) (hd : (x == ("__debug__" : Str)) = false) :
    wpAny (model prog w) A (eval (.Name x pos) (envOfC nm sc c.L a cd)) Q E s := nameX_L C.F hv k hk hl hd
theorem nm_gC {nm : Str} {sc : Scope} {a : Addr} {cd : Value} {x : Str} {pos : Pos} {v : Value} {Q : Value → Shared → Prop} (C : Cx w c A n m led s) (e : nsIn (KH w.params) mainGlobals x = some (some v)) (k : Q v s)
    (hk : sc.kind = .function) (hl : (envOfC nm sc c.L a cd).kindOf x = some .globalImplicit) (hd : (x == ("__debug__" : Str)) = false) :
    wpAny (model prog w) A (eval (.Name x pos) (envOfC nm sc c.L a cd)) Q E s := nameX_K C.F C.X C.TR e k hk hl hd
theorem nm_bC {nm : Str} {sc : Scope} {a : Addr} {cd : Value} {x : Str} {pos : Pos} {v : Value} {Q : Value → Shared → Prop} (C : Cx w c A n m led s) (e : nsIn (KH w.params) mainGlobals x = some none) (hv : bootBuiltins x = some v) (k : Q v s) (hn : x ≠ "__name__")
    (hk : sc.kind = .function) (hl : (envOfC nm sc c.L a cd).kindOf x = some .globalImplicit) (hd : (x == ("__debug__" : Str)) = false) :
    wpAny (model prog w) A (eval (.Name x pos) (envOfC nm sc c.L a cd)) Q E s := nameX_B C.F C.X C.TR e hv hn k hk hl hd
theorem st_lC {nm : Str} {sc : Scope} {a : Addr} {cd : Value} {x : Str} {v : Value} {Q : Unit → Shared → Prop} (C : Cx w c A n m led s) (k : ∀ s, Cx w c A n (upd m x v) led s → Q () s)
    (hk : sc.kind = .function) (hl : (envOfC nm sc c.L a cd).kindOf x = some .local) :
    wpAny (model prog w) A (storeName (envOfC nm sc c.L a cd) x v) Q E s := storeX_L C.F C.N (fun h' F' N' => k _ (C.step F' N' C.nd)) hk hl
theorem bd_lC {nm : Str} {sc : Scope} {a : Addr} {cd : Value} {x : Str} {v : Value} {Q : Unit → Shared → Prop} (C : Cx w c A n m led s) (k : ∀ s, Cx w c A n (upd m x v) led s → Q () s)
    (hk : sc.kind = .function) (hl : (envOfC nm sc c.L a cd).kindOf x = some .local) :
    wpAny (model prog w) A (bindName (envOfC nm sc c.L a cd) x v) Q E s := bindName_ (st_lC C k hk hl)
theorem cells_adr {lo : Nat} : ∀ (names : List (Str × NameKind)) (n : Nat) (acc : List (Str × Addr)), lo < n → (acc.map (·.2)).Nodup → (∀ a ∈ acc.map (·.2), lo < a ∧ a < n) → ((cellsFrom n names acc).map (·.2)).Nodup ∧ ∀ a ∈ (cellsFrom n names acc).map (·.2), lo < a
  | [], _, _, _, h1, h2 => ⟨h1, fun a ha => (h2 a ha).1⟩
  | (x, k) :: r, n, acc, h0, h1, h2 => by
    unfold cellsFrom
    split
    · refine cells_adr r (n + 1) _ (Nat.lt_succ_of_lt h0) (List.nodup_cons.mpr ⟨fun h => Nat.lt_irrefl _ (h2 n h).2, h1⟩) fun a ha => ?_
      rcases List.mem_cons.mp ha with rfl | ha
      · exact ⟨h0, Nat.lt_succ_self _⟩
      · exact ⟨(h2 a ha).1, Nat.lt_succ_of_lt (h2 a ha).2⟩
    · exact cells_adr r n acc h0 h1 h2
theorem enterC {Q : Value → Shared → Prop} {name qual : Str} {params : Arguments} {body : List Stmt} {scope : Scope} {dV kV doc pm cdv ct oc : Value} {an od : Option Addr} {osl : Array (Option Value)} {f : Addr} {pos : List Value} {kw : List (Str × Value)} {binds : List (Str × Value)}
    (C : Cx w c A (n + 1) m led s)
    (ho : (KH w.params).lookup f = some ⟨oc, od, .func (fnOf name qual params body scope dV kV doc pm an cdv ct), osl⟩) (hcd : codeIn (KH w.params) cdv qual = true)
    (hbind : BindsTo s (fnOf name qual params body scope dV kV doc pm an cdv ct) ⟨pos, kw⟩ binds) (hkind : (binds.all fun y => scope.names.lookup y.1 == some .local || scope.names.lookup y.1 == some .cell) = true)
    (hnd : ((cellsFrom 0 scope.names []).map (·.1)).Nodup)
    (h : ∀ c' A' E' s₁ cells, CellsAre (bindC (envOfC qual scope c'.L f cdv).kindOf binds fun _ => none) (cellsFrom (c'.L + 1) scope.names []) cells → (∀ p ∈ cells, ∀ q ∈ led, q.1 ≠ p.1) →
      Cx w c' A' n (bindL (envOfC qual scope c'.L f cdv).kindOf binds fun _ => none) (cells ++ led) s₁ →
      ∀ Qr : Flow → Shared → Prop, (∀ fl s' m' led', Cx w c' A' n m' led' s' → (Cx w c A (n + 1) m led' s' → Q (fin fl) s') → Qr fl s') →
      wpAny (model prog w) A' (execs body (envOfC qual scope c'.L f cdv)) Qr E' s₁)
    (hco : scope.isCoroutine = false) (hgen : scope.isGenerator = false) (hk : scope.kind = .function) :
    wpAny (model prog w) A (call (.ref f) pos kw) Q E s := by
  have hadr : ∀ L', ((cellsFrom (L' + 1) scope.names []).map (·.2)).Nodup ∧ ∀ a ∈ (cellsFrom (L' + 1) scope.names []).map (·.2), L' < a := fun L' => cells_adr _ _ _ (Nat.lt_succ_self _) .nil fun a ha => nomatch ha
  refine wpAny_call ?_
  refine code_defC C.B C.F C.X C.N C.T C.hA C.hf C.hk ho hcd (by have := C.hd; lia) hbind hkind hnd (fun g L' h₁ tk cells FG F' N' Y B' X' T' l => ?_) hco hgen hk
  have hfst := CellsAre.fst Y
  have hgt : ∀ p ∈ cells, L' < p.1 := fun p hp => (hadr L').2 _ (by rw [← hfst]; exact List.mem_map.mpr ⟨p, hp, rfl⟩)
  have hne : ∀ p ∈ cells, ∀ q ∈ led, q.1 ≠ p.1 := fun p hp q hq e => by
    have h1 := hgt p hp
    have h2 := l q hq
    rw [e] at h2
    exact absurd (Nat.lt_trans h1 h2) (Nat.lt_irrefl _)
  have C' : Cx w ⟨A, c.base, g, c.env :: c.outer, envOfC qual scope L' f cdv, L', c.p, c.loose, c.mean, c.mg, c.mb, c.g₀, c.o₀⟩ (A.deeper (envOfC qual scope L' f cdv)) n (bindL (envOfC qual scope L' f cdv).kindOf binds fun _ => none) (cells ++ led) { s with heap := h₁, toks := tk } := by
    refine ⟨B', F', N', ?_, X', T', Around.frames_deeper C.hA, rfl, hk, C.hh, by have := C.hd; show A.depth + 1 + _ < _; lia, by have := C.hu; show A.units + 3 + _ < _; lia, C.hg, C.ho⟩
    rw [List.map_append, List.nodup_append]
    refine ⟨by rw [hfst]; exact (hadr L').1, C.nd, fun a ha b hb e => ?_⟩
    obtain ⟨p, hp, rfl⟩ := List.mem_map.mp ha
    obtain ⟨q, hq, rfl⟩ := List.mem_map.mp hb
    exact hne p hp q hq e.symm
  refine wpAny_mono (h _ _ _ _ cells Y hne C' _ fun _ _ m' led' C k => (⟨m', led', C, k⟩ : ∃ m' led', Cx w _ _ n m' led' _ ∧ (Cx w c A (n + 1) m led' _ → Q (fin _) _))) (fun fl s' q => ?_) fun _ _ q => q
  obtain ⟨m', led', C₁, k⟩ := q
  refine ⟨L', m', led', C₁.F, C₁.N, fun F₂ N₂ => ?_⟩
  exact k ⟨C.B, F₂, N₂, C₁.nd, C.X, C.T, C.hA, C.hf, C.hk, C.hh, C.hd, C.hu, C₁.hg, C₁.ho⟩
end
end Mine
end

section
open PySem PySem.W PySem.Calls PyProof.Rows PyProof.Rows.LCg
namespace Mine
section
variable {prog : Program} {w : World} {c : Cfg} {A : Around} {n : Nat} {m : Loc} {led : Led} {s : Shared} {E : Value → Shared → Prop}
theorem RgSt.out {r l : Addr} {items : List Value} {k : Nat} {rows : Rows} (R : RgSt led r l items k rows) (C : Cx w c A n m led s) :
    ∃ led₀, Cx w c A n m ((l, lstO items k) :: led₀) s ∧ Kp [l] led led₀ ∧ (∀ p ∈ led₀, p ∈ led) ∧ RgAt led₀ r l ∧ RowsV led₀ items rows := by
  obtain ⟨led₀, C₀, s1, s2⟩ := C.pick R.hl
  have kp : Kp [l] led led₀ := fun p hp hn => s2 p hp fun q => hn (by rw [q]; exact .head _)
  obtain ⟨dx, hs, tk, j, h1, h2⟩ := R.hr
  refine ⟨led₀, C₀, kp, s1, ⟨dx, hs, tk, j, s2 _ h1 fun q => ?_, s2 _ h2 fun q => ?_⟩, R.hv.kp kp fun t vs j hm q => ?_⟩
  · have := congrArg (fun p : Addr × Obj => p.2.cls) q; cases this
  · have := congrArg (fun p : Addr × Obj => p.2.cls) q; exact absurd this (by simp [dictOf, PySem.W.listOf])
  · rw [List.mem_singleton] at q
    exact C.diff hm R.hl (by simp [PySem.W.listOf]) q
theorem put_v {r l : Addr} {rows : Rows} {b y : Int} {t1 t2 : Tok} {Q : Value → Shared → Prop} (C : Cx w c A (n + 2) m led s) (R : RgV led r l rows) (hb : 0 ≤ b) (hy : 0 < y) (hz : b + y ≤ 1000)
    (K : ∀ led' rows' s, Kp [l] led led' → RgV led' r l rows' → (∀ x, Mem rows' x ↔ Mem rows x ∨ (b ≤ x ∧ x < b + y)) → Cx w c A (n + 2) m led' s → Q .none s) :
    wpAny (model prog w) A (call (.ref 155) [.ref r, .int b t1, .int y t2]) Q E s := by
  obtain ⟨items, k, R⟩ := R
  obtain ⟨led₀, C₀, kp, s1, h1, h2⟩ := R.out C
  refine spec_put C₀ h1 h2 R.hg hb hy hz fun items' k' rows' tl s g1 g2 g3 C => ?_
  exact K _ rows' s (fun p hp hn => .tail _ (List.mem_append_right _ (kp p hp hn))) ⟨items', k', h1.mono fun p hp => .tail _ (List.mem_append_right _ hp), .head _, g3.mono fun p hp => .tail _ hp, g1⟩ g2 C
theorem cut_v {r l : Addr} {rows : Rows} {b y : Int} {t1 t2 : Tok} {Q : Value → Shared → Prop} (C : Cx w c A (n + 2) m led s) (R : RgV led r l rows) (hb : 0 ≤ b) (hy : 0 < y)
    (K : ∀ led' rows' s, Kp [l] led led' → RgV led' r l rows' → (∀ x, Mem rows' x ↔ Mem rows x ∧ ¬ (b ≤ x ∧ x < b + y)) → Cx w c A (n + 2) m led' s → Q .none s) :
    wpAny (model prog w) A (call (.ref 162) [.ref r, .int b t1, .int y t2]) Q E s := by
  obtain ⟨items, k, R⟩ := R
  obtain ⟨led₀, C₀, kp, s1, h1, h2⟩ := R.out C
  refine spec_cut C₀ h1 h2 R.hg hb hy fun items' k' rows' tl s g1 g2 g3 C => ?_
  exact K _ rows' s (fun p hp hn => .tail _ (List.mem_append_right _ (kp p hp hn))) ⟨items', k', h1.mono fun p hp => .tail _ (List.mem_append_right _ hp), .head _, g3.mono fun p hp => .tail _ hp, g1⟩ g2 C
theorem add_v {r l : Addr} {rows : Rows} {b y : Int} {t1 t2 : Tok} {Q : Value → Shared → Prop} (C : Cx w c A (n + 3) m led s) (R : RgV led r l rows) (hb : 0 ≤ b) (hy : 0 < y) (hz : b + y ≤ 1000) (hm : ¬ Meets rows b y)
    (K : ∀ led' rows' s, Kp [l] led led' → RgV led' r l rows' → (∀ x, Mem rows' x ↔ Mem rows x ∨ (b ≤ x ∧ x < b + y)) → Cx w c A (n + 3) m led' s → Q .none s) :
    wpAny (model prog w) A (call (.ref 141) [.ref r, .int b t1, .int y t2]) Q E s := by
  obtain ⟨items, k, R₁⟩ := id R
  have hr := R₁.hr
  refine enter0 (binds := [(Str.ofString "self", .ref r), (Str.ofString "begin", .int b t1), (Str.ofString "many", .int y t2)]) C (by k_is) (by k_is) (BindsTo.of_eq rfl) (locs rfl) (fun c A E s C Qr kQ => ?_) rfl rfl rfl (by decide)
  walk_at "xc"
  refine wpAny_If ?_
  refine isTrue_plain ?_
  refine MethodCall_ ?_
  refine nm_l C (by walk_at "lk") ?_ rfl rfl (by decide)
  refine mr_some C hr ?_
  refine cw_more C (by k_is) ?_
  refine spliced_more ?_
  refine nm_l C (by walk_at "lk") ?_ rfl rfl (by decide)
  refine spliced_more ?_
  refine nm_l C (by walk_at "lk") ?_ rfl rfl (by decide)
  refine spliced_none ?_
  refine ⟨C.Xs, ?_⟩
  refine spec_some C R₁ hb (by lia) fun v s hv C => ?_
  refine wpAny_truthy_bool ?_
  refine ite_f (by cases v; rfl; exact absurd (hv.mp rfl) hm) ?_
  walk_at "xn"
  walk_at "xc"
  refine wpAny_If ?_
  refine wpAny_isTrue_Compare1 ?_
  refine nm_l C (by walk_at "lk") ?_ rfl rfl (by decide)
  with_reducible refine k_int C fun t s C => ?_
  refine gt_int ?_
  refine wpAny_truthy_bool ?_
  refine ite_t (decide_eq_true hy) ?_
  walk_at "xc"
  refine wpAny_Expr_any ?_
  refine MethodCall_ ?_
  refine nm_l C (by walk_at "lk") ?_ rfl rfl (by decide)
  refine mr_put C hr ?_
  refine cw_more C (by k_is) ?_
  refine spliced_more ?_
  refine nm_l C (by walk_at "lk") ?_ rfl rfl (by decide)
  refine spliced_more ?_
  refine nm_l C (by walk_at "lk") ?_ rfl rfl (by decide)
  refine spliced_none ?_
  refine ⟨C.Xs, ?_⟩
  refine put_v C R hb hy hz fun led' rows' s kp R' hm' C => ?_
  walk_at "xn"
  walk_at "xn"
  try walk_at "rt"
  exact kQ _ _ _ _ C (fun C => K _ _ _ kp R' hm' C)
theorem take_v {r l : Addr} {rows : Rows} {b y : Int} {t1 t2 : Tok} {Q : Value → Shared → Prop} (C : Cx w c A (n + 5) m led s) (R : RgV led r l rows) (hb : 0 ≤ b) (hy : 0 < y)
    (K : Covers rows b y → ∀ led' rows' s, Kp [l] led led' → RgV led' r l rows' → (∀ x, Mem rows' x ↔ Mem rows x ∧ ¬ (b ≤ x ∧ x < b + y)) → Cx w c A (n + 5) m led' s → Q .none s)
    (KE : ¬ Covers rows b y → ∀ e s, XP c m led e s → E (.ref e) s) :
    wpAny (model prog w) A (call (.ref 148) [.ref r, .int b t1, .int y t2]) Q E s := by
  obtain ⟨items, k, R₁⟩ := id R
  have hr := R₁.hr
  by_cases hc : Covers rows b y
  · refine enter0 (binds := [(Str.ofString "self", .ref r), (Str.ofString "begin", .int b t1), (Str.ofString "many", .int y t2)]) C (by k_is) (by k_is) (BindsTo.of_eq rfl) (locs rfl) (fun c A E s C Qr kQ => ?_) rfl rfl rfl (by decide)
    walk_at "xc"
    refine wpAny_If ?_
    refine opv fun _ _ => ?_
    refine isTrue_not ?_
    refine isTrue_plain ?_
    refine MethodCall_ ?_
    refine nm_l C (by walk_at "lk") ?_ rfl rfl (by decide)
    refine mr_has C hr ?_
    refine cw_more C (by k_is) ?_
    refine spliced_more ?_
    refine nm_l C (by walk_at "lk") ?_ rfl rfl (by decide)
    refine spliced_more ?_
    refine nm_l C (by walk_at "lk") ?_ rfl rfl (by decide)
    refine spliced_none ?_
    refine ⟨C.Xs, ?_⟩
    refine spec_has C R₁ hb (by omega) fun v s hv C => ?_
    refine wpAny_truthy_bool ?_
    walk_at "op"
    refine ite_f (by rw [hv.mpr hc]; rfl) ?_
    walk_at "xn"
    walk_at "xc"
    refine wpAny_If ?_
    refine wpAny_isTrue_Compare1 ?_
    refine nm_l C (by walk_at "lk") ?_ rfl rfl (by decide)
    with_reducible refine k_int C fun t s C => ?_
    refine gt_int ?_
    refine wpAny_truthy_bool ?_
    refine ite_t (decide_eq_true hy) ?_
    walk_at "xc"
    refine wpAny_Expr_any ?_
    refine MethodCall_ ?_
    refine nm_l C (by walk_at "lk") ?_ rfl rfl (by decide)
    refine mr_cut C hr ?_
    refine cw_more C (by k_is) ?_
    refine spliced_more ?_
    refine nm_l C (by walk_at "lk") ?_ rfl rfl (by decide)
    refine spliced_more ?_
    refine nm_l C (by walk_at "lk") ?_ rfl rfl (by decide)
    refine spliced_none ?_
    refine ⟨C.Xs, ?_⟩
    refine cut_v C R hb hy fun led' rows' s kp R' hm' C => ?_
    walk_at "xn"
    walk_at "xn"
    try walk_at "rt"
    exact kQ _ _ _ _ C (fun C => K hc _ _ _ kp R' hm' C)
  · refine enterX (binds := [(Str.ofString "self", .ref r), (Str.ofString "begin", .int b t1), (Str.ofString "many", .int y t2)]) C (by k_is) (by k_is) (BindsTo.of_eq rfl) (locs rfl) (fun c A s C Qr Er kQ kE => ?_) (KE hc) rfl rfl rfl (by decide)
    walk_at "xc"
    refine wpAny_If ?_
    refine opv fun _ _ => ?_
    refine isTrue_not ?_
    refine isTrue_plain ?_
    refine MethodCall_ ?_
    refine nm_l C (by walk_at "lk") ?_ rfl rfl (by decide)
    refine mr_has C hr ?_
    refine cw_more C (by k_is) ?_
    refine spliced_more ?_
    refine nm_l C (by walk_at "lk") ?_ rfl rfl (by decide)
    refine spliced_more ?_
    refine nm_l C (by walk_at "lk") ?_ rfl rfl (by decide)
    refine spliced_none ?_
    refine ⟨C.Xs, ?_⟩
    refine spec_has C R₁ hb (by omega) fun v s hv C => ?_
    refine wpAny_truthy_bool ?_
    walk_at "op"
    refine ite_t (by cases v; rfl; exact absurd (hv.mp rfl) hc) ?_
    walk_at "xc"
    refine x_raise C (fun e oe s ho C => ?_) rfl rfl
    exact kE _ _ (.inl ⟨e, oe, _, _, rfl, ho, C⟩)
end
end Mine
end

section
open PySem PySem.W PySem.Calls PyProof.Rows PyProof.Rows.LCg
namespace Mine
section
variable {prog : Program} {w : World} {c : Cfg} {A : Around} {n : Nat} {m : Loc} {led : Led} {s : Shared} {E : Value → Shared → Prop}
theorem Cx.front {I : Addr} {o : Obj} (C : Cx w c A n m led s) (hm : (I, o) ∈ led) : ∃ led₀, Cx w c A n m ((I, o) :: led₀) s ∧ Kp [I] led led₀ ∧ ∀ p ∈ led₀, p ∈ led := by
  obtain ⟨led₀, C₀, s1, s2⟩ := C.pick hm
  exact ⟨led₀, C₀, fun p hp hn => s2 p hp fun q => hn (by rw [q]; exact .head _), s1⟩
theorem IsLi.mut {o : Obj} {l : Addr} {i : Nat} (h : IsLi o l i) : Mut o := ⟨by rw [h.1]; simp, by rw [h.1]; simp, fun hs tk l k q => by have := h.1; rw [q] at this; exact absurd this (by simp [dictOf])⟩
theorem new_rg0 {Q : Value → Shared → Prop} (C : Cx w c A (n + 2) m led s) (K : ∀ r l dx led' s, (∀ p ∈ led, p ∈ led') → (∀ p ∈ led, p.1 ≠ l ∧ p.1 ≠ dx) → (r, instObj 186 dx) ∈ led' → RgSt led' r l [] 0 [] → Cx w c A (n + 2) m led' s → Q (.ref r) s) :
    wpAny (model prog w) A (call (.ref 186) []) Q E s := by
  have C₀ := C
  refine cls_new C (by k_is) (by k_is) (by k_is) fun x dx s C => ?_
  have hdx := C.drop.ne
  refine enterI (binds := [(Str.ofString "self", .ref x), (Str.ofString "rows", .ref 61)]) C (by k_is) (by k_is) (binds_K C.Xs rfl (by k_is) rfl rfl rfl) (locs rfl) (fun c A E s C Qr kQ => ?_) rfl rfl rfl (by decide)
  walk_at "xc"
  refine plainObj_wpAny_Assign_Attribute ?_ (by with_unfolding_all rfl)
  refine List_ ?_
  refine spliced_none ?_
  refine mk_list C (Nat.zero_le _) fun l s C => ?_
  refine nm_l C (by walk_at "lk") ?_ rfl rfl (by decide)
  have hne := C.ne
  replace C := Cx.pull (a := [_, _]) C
  refine st_attr C (.tail _ (.head _)) (by k_is) (by k_is) (by k_is) (by k_is) rfl (fun _ => Nat.le_of_ble_eq_true rfl) fun hk tk s C => ?_
  walk_at "xc"
  refine wpAny_For ?_
  refine nm_l C (by walk_at "lk") ?_ rfl rfl (by decide)
  have ht : s.heap.IsTuple 61 #[] := ⟨_, C.Xs _ _ (by k_is), rfl, _, rfl⟩
  refine iter_tup C ht fun I o s hI ht C => ?_
  refine for_tup0 C hI ht fun s E' C => ?_
  walk_at "xn"
  walk_at "xn"
  try walk_at "rt"
  refine kQ _ _ _ _ C (fun C => ⟨rfl, K x l dx _ _ (fun p hp => .tail _ (.tail _ (.tail _ hp))) (fun p hp => ⟨hne p (.tail _ (.tail _ hp)), hdx p hp⟩) (.tail _ (.tail _ (.head _))) ⟨⟨dx, hk, tk, _, .tail _ (.tail _ (.head _)), .head _⟩, .tail _ (.head _), trivial, rg_nil⟩ (C.unmake C₀)⟩)
theorem new_rg1 {lst t : Addr} {b e : Int} {k1 k2 : Tok} {j j2 : Nat} {Q : Value → Shared → Prop} (C : Cx w c A (n + 5) m led s) (hl : (lst, lstO [.ref t] j) ∈ led) (ht : (t, tupO [.int b k1, .int e k2] j2) ∈ led) (hb : 0 ≤ b) (hbe : b < e) (he : e ≤ 1000)
    (K : ∀ r l rows led' s, (∀ p ∈ led, p ∈ led') → (∀ p ∈ led, p.1 ≠ l) → RgV led' r l rows → (∀ x, Mem rows x ↔ b ≤ x ∧ x < e) → Cx w c A (n + 5) m led' s → Q (.ref r) s) :
    wpAny (model prog w) A (call (.ref 186) [.ref lst]) Q E s := by
  have C₀ := C
  refine cls_new C (by k_is) (by k_is) (by k_is) fun x dx s C => ?_
  refine enterI (binds := [(Str.ofString "self", .ref x), (Str.ofString "rows", .ref lst)]) C (by k_is) (by k_is) (binds_K C.Xs rfl (by k_is) rfl rfl rfl) (locs rfl) (fun c A E s C Qr kQ => ?_) rfl rfl rfl (by decide)
  walk_at "xc"
  refine plainObj_wpAny_Assign_Attribute ?_ (by with_unfolding_all rfl)
  refine List_ ?_
  refine spliced_none ?_
  refine mk_list C (Nat.zero_le _) fun l s C => ?_
  refine nm_l C (by walk_at "lk") ?_ rfl rfl (by decide)
  have hne := C.ne
  replace C := Cx.pull (a := [_, _]) C
  refine st_attr C (.tail _ (.head _)) (by k_is) (by k_is) (by k_is) (by k_is) rfl (fun _ => Nat.le_of_ble_eq_true rfl) fun hk tk s C => ?_
  walk_at "xc"
  refine wpAny_For ?_
  refine nm_l C (by walk_at "lk") ?_ rfl rfl (by decide)
  refine iter_list C (.tail _ (.tail _ (.tail _ hl))) fun I o s hI C => ?_
  refine for_list C hI (fun i m' led' => m' (Str.ofString "self") = some (.ref x) ∧ (∀ p ∈ led, p ∈ led') ∧ ∃ rows, RgV led' x l rows ∧ ∀ y, Mem rows y ↔ (0 < i ∧ b ≤ y ∧ y < e))
    (fun i m' led' h => h.2.1 _ hl) ⟨by walk_at "lk", fun p hp => .tail _ (.tail _ (.tail _ hp)), [], ⟨[], 0, ⟨dx, hk, tk, _, .tail _ (.tail _ (.head _)), .head _⟩, .tail _ (.head _), trivial, rg_nil⟩, fun y => ⟨fun q => absurd q mem_nil, fun q => by omega⟩⟩ ?_ ?_ ?_
  · intro v hv
    rw [List.mem_singleton] at hv
    rw [hv]; exact lets_tuple
  · rintro i m' led' s v E' o hvi ⟨m1, hs, rows, R, hm⟩ hIo C T kN kR
    have hi : i = 0 := by
      cases i with
      | zero => rfl
      | succ i => simp at hvi
    subst hi
    simp only [List.getElem?_cons_zero, Option.some.injEq] at hvi
    subst hvi
    have hIne := C.ne
    have R' : RgV ((I, o) :: led') x l rows := R.mono fun p hp => .tail _ hp
    obtain ⟨items, k, R1⟩ := id R'
    have hr := R1.hr
    refine as_pairF C (.tail _ (hs _ ht)) rfl rfl rfl fun s C => ?_
    have hml : ¬ Meets rows b (e - b) := fun ⟨y, h1, h2, h3⟩ => by have := (hm y).mp h3; lia
    walk_at "xc"
    refine wpAny_Expr_any ?_
    refine opv fun _ _ => ?_
    refine MethodCall_ ?_
    refine nm_l C (by walk_at "lk") ?_ rfl rfl (by decide)
    refine mr_add C hr ?_
    refine cw_more C (by k_is) ?_
    refine spliced_more ?_
    refine nm_l C (by walk_at "lk") ?_ rfl rfl (by decide)
    refine spliced_more ?_
    refine wpAny_BinOp ?_
    refine nm_l C (by walk_at "lk") ?_ rfl rfl (by decide)
    refine nm_l C (by walk_at "lk") ?_ rfl rfl (by decide)
    with_reducible refine a_sub C fun t s C => ?_
    refine spliced_none ?_
    refine ⟨C.Xs, ?_⟩
    refine add_v C R' hb (by lia) (by lia) hml fun led2 rows2 s kp R2 hm2 C => ?_
    walk_at "op"
    walk_at "xn"
    have hIl : I ≠ l := by obtain ⟨i0, k0, R0⟩ := R; exact fun q => hIne _ R0.hl q.symm
    obtain ⟨led3, C3, kp3, s3⟩ := C.front (kp (I, o) (.head _) (by simpa using hIl))
    refine kN _ _ led3 C3 ⟨by walk_at "lk", fun p hp => kp3 p (kp p (.tail _ (hs p hp)) ?_) ?_, rows2, R2.kp C kp3 (fun a ha => ?_) (by simpa using Ne.symm hIl), fun y => ?_⟩
    · rw [List.mem_singleton]; exact hne p (.tail _ (.tail _ hp))
    · rw [List.mem_singleton]; exact hIne p (hs p hp)
    · rw [List.mem_singleton.mp ha]
      exact ⟨o, kp (I, o) (.head _) (by simpa using hIl), hIo.mut⟩
    · rw [hm2 y, hm y]
      constructor
      · rintro (q | q); omega; exact ⟨by lia, by omega, by omega⟩
      · rintro ⟨_, q⟩; exact .inr (by lia)
  · rintro m' led' s E' ⟨m1, hs, rows, R, hm⟩ C
    walk_at "xn"
    walk_at "xn"
    try walk_at "rt"
    exact kQ _ _ _ _ C (fun C => ⟨rfl, K x l rows led' _ hs (fun p hp => hne p (.tail _ (.tail _ hp))) R (fun y => by rw [hm y]; simp) (C.unmake C₀)⟩)
end
end Mine
end

section
open PySem PySem.W PySem.Calls PyProof.Rows PyProof.Rows.LCg
namespace Mine
section
variable {prog : Program} {w : World} {c : Cfg} {A : Around} {n : Nat} {m : Loc} {led : Led} {s : Shared} {E : Value → Shared → Prop}
theorem copy_v {r l : Addr} {rows : Rows} {Q : Value → Shared → Prop} (C : Cx w c A (n + 3) m led s) (R : RgV led r l rows)
    (K : ∀ r' l' led' s, (∀ p ∈ led, p ∈ led') → (∀ p ∈ led, p.1 ≠ l') → RgV led' r' l' rows → Cx w c A (n + 3) m led' s → Q (.ref r') s) :
    wpAny (model prog w) A (call (.ref 169) [.ref r]) Q E s := by
  obtain ⟨items, k, R⟩ := R
  have hr := R.hr; have hl := R.hl; have hv := R.hv; have hz := R.hg.len
  have hlen := hv.len
  refine enter0 (binds := [(Str.ofString "self", .ref r)]) C (by k_is) (by k_is) (BindsTo.of_eq rfl) (locs rfl) (fun c A E s C Qr kQ => ?_) rfl rfl rfl (by decide)
  walk_at "xc"
  refine wpAny_Assign_Name ?_
  refine Call_ ?_
  refine nm_g C (by k_is) ?_ rfl rfl (by decide)
  refine cw_none C (by k_is) ?_
  refine new_rg0 C fun f l0 dx led1 s k1 f1 hi R0 C => ?_
  refine st_l C (fun s C => ?_) rfl rfl
  walk_at "xc"
  refine plainObj_wpAny_Assign_Attribute ?_ (by with_unfolding_all rfl)
  refine Call_ ?_
  refine nm_b C (by k_is) (by boot_fast) ?_ (by decide) rfl rfl (by decide)
  refine PyProof.Rows.callWith_type1 ?_
  refine spliced_more ?_
  refine Attribute_any_ ?_
  refine nm_l C (by walk_at "lk") ?_ rfl rfl (by decide)
  refine at_rows C (hr.mono k1) fun s C => ?_
  refine spliced_none ?_
  refine b_copy C (k1 _ hl) (by lia) fun D j s C => ?_
  refine nm_l C (by walk_at "lk") ?_ rfl rfl (by decide)
  obtain ⟨dx', hs, tk, j', h1, h2⟩ := R0.hr
  obtain rfl : dx' = dx := by have := C.one (.tail _ h1) (.tail _ hi); cases this; rfl
  have hfd : f ≠ dx' := C.diff (.tail _ hi) (.tail _ h2) (by simp [dictOf])
  have hDd : D ≠ dx' := C.diff (.head _) (.tail _ h2) (by simp [dictOf, PySem.W.listOf])
  have hD := C.ne
  obtain ⟨led2, C, kp, s2⟩ := C.front (.tail _ h2)
  have e : ∀ p ∈ led, p ∈ led2 := fun p hp => kp p (.tail _ (k1 p hp)) (by rw [List.mem_singleton]; exact (f1 p hp).2)
  have hi2 : (f, instObj 186 dx') ∈ led2 := kp _ (.tail _ hi) (by rw [List.mem_singleton]; exact hfd)
  have hD2 : (D, lstO items j) ∈ led2 := kp _ (.head _) (by rw [List.mem_singleton]; exact hDd)
  refine st_attr C hi2 (by k_is) (by k_is) (by k_is) (by k_is) (by rfl) (fun _ => Nat.le_of_ble_eq_true rfl) fun hk tk' s C => ?_
  have e2 : putL (Str.ofString "rows") hk (.str (Str.ofString "rows") tk') (.ref D) [⟨hs, .str (Str.ofString "rows") tk, .ref l0⟩] = [⟨hs, .str (Str.ofString "rows") tk, .ref D⟩] := by simp [putL, Value.isStr]
  rw [e2] at C
  walk_at "xc"
  refine wpAny_Return_some ?_
  refine nm_l C (by walk_at "lk") ?_ rfl rfl (by decide)
  walk_at "ar"
  try walk_at "rt"
  exact kQ _ _ _ _ C (fun C => K f D _ _ (fun p hp => .tail _ (e p hp)) (fun p hp => hD p (k1 p hp)) ⟨items, j, ⟨dx', hs, tk, _, .tail _ hi2, .head _⟩, .tail _ hD2, hv.mono fun p hp => .tail _ (e p hp), R.hg⟩ C)
theorem union_v {r l r2 l2 : Addr} {rows rows2 : Rows} {Q : Value → Shared → Prop} (C : Cx w c A (n + 4) m led s) (R : RgV led r l rows) (R2 : RgV led r2 l2 rows2)
    (K : ∀ r' l' rows' led' s, (∀ p ∈ led, p ∈ led') → (∀ p ∈ led, p.1 ≠ l') → RgV led' r' l' rows' → (∀ x, Mem rows' x ↔ Mem rows x ∨ Mem rows2 x) → Cx w c A (n + 4) m led' s → Q (.ref r') s) :
    wpAny (model prog w) A (call (.ref 176) [.ref r, .ref r2]) Q E s := by
  obtain ⟨items, k, R2⟩ := R2
  have hr := R2.hr; have hl := R2.hl; have hv := R2.hv; have hz := R2.hg.len
  have hlen := hv.len
  obtain ⟨i0, k0, R0⟩ := id R
  have hr0 := R0.hr
  refine enter0 (binds := [(Str.ofString "self", .ref r), (Str.ofString "other", .ref r2)]) C (by k_is) (by k_is) (BindsTo.of_eq rfl) (locs rfl) (fun c A E s C Qr kQ => ?_) rfl rfl rfl (by decide)
  walk_at "xc"
  refine wpAny_Assign_Name ?_
  refine MethodCall_ ?_
  refine nm_l C (by walk_at "lk") ?_ rfl rfl (by decide)
  refine mr_copy C hr0 ?_
  refine cw_none C (by k_is) ?_
  refine copy_v C R fun f lf led1 s k1 f1 Rf C => ?_
  refine st_l C (fun s C => ?_) rfl rfl
  walk_at "xc"
  refine wpAny_For ?_
  refine Attribute_any_ ?_
  refine nm_l C (by walk_at "lk") ?_ rfl rfl (by decide)
  refine at_rows C (hr.mono k1) fun s C => ?_
  refine iter_list C (k1 _ hl) fun I o s hI C => ?_
  refine for_list C hI (fun i m' led' => m' (Str.ofString "found") = some (.ref f) ∧ (∀ p ∈ led, p ∈ led') ∧ ∃ rows', RgV led' f lf rows' ∧ ∀ x, Mem rows' x ↔ Mem rows x ∨ Mem (rows2.take i) x)
    (fun i m' led' h => h.2.1 _ hl) ⟨by walk_at "lk", k1, rows, Rf, fun x => by simp [mem_nil]⟩ ?_ ?_ ?_
  · intro v hvm
    obtain ⟨i, hi, rfl⟩ := List.getElem_of_mem hvm
    obtain ⟨v, h1, t, _, _, _, rfl, _⟩ := hv.get i (by lia)
    rw [List.getElem?_eq_getElem hi] at h1
    rw [Option.some.inj h1]; exact lets_tuple
  · rintro i m' led' s v E' o hvi ⟨m1, hs, rows', R', hm⟩ hIo C T kN kR
    have hi : i < rows2.length := by rw [← hlen]; exact (List.getElem?_eq_some_iff.mp hvi).1
    obtain ⟨v', h1, tt, q1, q2, j', rfl, hmt⟩ := hv.get i hi
    rw [hvi] at h1
    obtain rfl := Option.some.inj h1
    have hIne := C.ne
    have hn := R2.hg.nei i hi
    have hb := R2.hg.bdi i hi
    have R'' : RgV ((I, o) :: led') f lf rows' := R'.mono fun p hp => .tail _ hp
    obtain ⟨i1, k1', R1⟩ := id R''
    have hr1 := R1.hr
    refine as_pairF C (.tail _ (hs _ hmt)) rfl rfl rfl fun s C => ?_
    walk_at "xc"
    refine wpAny_Expr_any ?_
    refine opv fun _ _ => ?_
    refine MethodCall_ ?_
    refine nm_l C (by walk_at "lk") ?_ rfl rfl (by decide)
    refine mr_put C hr1 ?_
    refine cw_more C (by k_is) ?_
    refine spliced_more ?_
    refine nm_l C (by walk_at "lk") ?_ rfl rfl (by decide)
    refine spliced_more ?_
    refine wpAny_BinOp ?_
    refine nm_l C (by walk_at "lk") ?_ rfl rfl (by decide)
    refine nm_l C (by walk_at "lk") ?_ rfl rfl (by decide)
    with_reducible refine a_sub C fun t s C => ?_
    refine spliced_none ?_
    refine ⟨C.Xs, ?_⟩
    refine put_v C R'' hb.1 (by lia) (by lia) fun led2 rows3 s kp R3 hm3 C => ?_
    walk_at "op"
    walk_at "xn"
    have hIl : I ≠ lf := by obtain ⟨i0, k0, R0⟩ := R'; exact fun q => hIne _ R0.hl q.symm
    obtain ⟨led3, C3, kp3, s3⟩ := C.front (kp (I, o) (.head _) (by simpa using hIl))
    refine kN _ _ led3 C3 ⟨by walk_at "lk", fun p hp => kp3 p (kp p (.tail _ (hs p hp)) ?_) ?_, rows3, R3.kp C kp3 (fun a ha => ?_) (by simpa using Ne.symm hIl), fun x => ?_⟩
    · rw [List.mem_singleton]; exact f1 p hp
    · rw [List.mem_singleton]; exact hIne p (hs p hp)
    · rw [List.mem_singleton.mp ha]
      exact ⟨o, kp (I, o) (.head _) (by simpa using hIl), hIo.mut⟩
    · rw [hm3 x, hm x, take_snoc hi, mem_append, or_assoc]
      have : Mem [rows2[i]] x ↔ rows2[i].1 ≤ x ∧ x < rows2[i].1 + (rows2[i].2 - rows2[i].1) := by
        rw [show [rows2[i]] = [(rows2[i].1, rows2[i].2)] from rfl, mem_one]
        constructor <;> (rintro ⟨a, b⟩; omega)
      rw [this]
  · rintro m' led' s E' ⟨m1, hs, rows', R', hm⟩ C
    walk_at "xn"
    walk_at "xc"
    refine wpAny_Return_some ?_
    refine nm_l C (by walk_at "lk") ?_ rfl rfl (by decide)
    walk_at "ar"
    try walk_at "rt"
    exact kQ _ _ _ _ C (fun C => K f lf rows' led' _ hs f1 R' (fun x => by rw [hm x, List.take_of_length_le (by lia)]) C)
theorem without_v {r l r2 l2 : Addr} {rows rows2 : Rows} {Q : Value → Shared → Prop} (C : Cx w c A (n + 4) m led s) (R : RgV led r l rows) (R2 : RgV led r2 l2 rows2)
    (K : ∀ r' l' rows' led' s, (∀ p ∈ led, p ∈ led') → (∀ p ∈ led, p.1 ≠ l') → RgV led' r' l' rows' → (∀ x, Mem rows' x ↔ Mem rows x ∧ ¬ Mem rows2 x) → Cx w c A (n + 4) m led' s → Q (.ref r') s) :
    wpAny (model prog w) A (call (.ref 183) [.ref r, .ref r2]) Q E s := by
  obtain ⟨items, k, R2⟩ := R2
  have hr := R2.hr; have hl := R2.hl; have hv := R2.hv; have hz := R2.hg.len
  have hlen := hv.len
  obtain ⟨i0, k0, R0⟩ := id R
  have hr0 := R0.hr
  refine enter0 (binds := [(Str.ofString "self", .ref r), (Str.ofString "other", .ref r2)]) C (by k_is) (by k_is) (BindsTo.of_eq rfl) (locs rfl) (fun c A E s C Qr kQ => ?_) rfl rfl rfl (by decide)
  walk_at "xc"
  refine wpAny_Assign_Name ?_
  refine MethodCall_ ?_
  refine nm_l C (by walk_at "lk") ?_ rfl rfl (by decide)
  refine mr_copy C hr0 ?_
  refine cw_none C (by k_is) ?_
  refine copy_v C R fun f lf led1 s k1 f1 Rf C => ?_
  refine st_l C (fun s C => ?_) rfl rfl
  walk_at "xc"
  refine wpAny_For ?_
  refine Attribute_any_ ?_
  refine nm_l C (by walk_at "lk") ?_ rfl rfl (by decide)
  refine at_rows C (hr.mono k1) fun s C => ?_
  refine iter_list C (k1 _ hl) fun I o s hI C => ?_
  refine for_list C hI (fun i m' led' => m' (Str.ofString "found") = some (.ref f) ∧ (∀ p ∈ led, p ∈ led') ∧ ∃ rows', RgV led' f lf rows' ∧ ∀ x, Mem rows' x ↔ Mem rows x ∧ ¬ Mem (rows2.take i) x)
    (fun i m' led' h => h.2.1 _ hl) ⟨by walk_at "lk", k1, rows, Rf, fun x => by simp [mem_nil]⟩ ?_ ?_ ?_
  · intro v hvm
    obtain ⟨i, hi, rfl⟩ := List.getElem_of_mem hvm
    obtain ⟨v, h1, t, _, _, _, rfl, _⟩ := hv.get i (by omega)
    rw [List.getElem?_eq_getElem hi] at h1
    rw [Option.some.inj h1]; exact lets_tuple
  · rintro i m' led' s v E' o hvi ⟨m1, hs, rows', R', hm⟩ hIo C T kN kR
    have hi : i < rows2.length := by rw [← hlen]; exact (List.getElem?_eq_some_iff.mp hvi).1
    obtain ⟨v', h1, tt, q1, q2, j', rfl, hmt⟩ := hv.get i hi
    rw [hvi] at h1
    obtain rfl := Option.some.inj h1
    have hIne := C.ne
    have hn := R2.hg.nei i hi
    have hb := R2.hg.bdi i hi
    have R'' : RgV ((I, o) :: led') f lf rows' := R'.mono fun p hp => .tail _ hp
    obtain ⟨i1, k1', R1⟩ := id R''
    have hr1 := R1.hr
    refine as_pairF C (.tail _ (hs _ hmt)) rfl rfl rfl fun s C => ?_
    walk_at "xc"
    refine wpAny_Expr_any ?_
    refine opv fun _ _ => ?_
    refine MethodCall_ ?_
    refine nm_l C (by walk_at "lk") ?_ rfl rfl (by decide)
    refine mr_cut C hr1 ?_
    refine cw_more C (by k_is) ?_
    refine spliced_more ?_
    refine nm_l C (by walk_at "lk") ?_ rfl rfl (by decide)
    refine spliced_more ?_
    refine wpAny_BinOp ?_
    refine nm_l C (by walk_at "lk") ?_ rfl rfl (by decide)
    refine nm_l C (by walk_at "lk") ?_ rfl rfl (by decide)
    with_reducible refine a_sub C fun t s C => ?_
    refine spliced_none ?_
    refine ⟨C.Xs, ?_⟩
    refine cut_v C R'' hb.1 (by omega) fun led2 rows3 s kp R3 hm3 C => ?_
    walk_at "op"
    walk_at "xn"
    have hIl : I ≠ lf := by obtain ⟨i0, k0, R0⟩ := R'; exact fun q => hIne _ R0.hl q.symm
    obtain ⟨led3, C3, kp3, s3⟩ := C.front (kp (I, o) (.head _) (by simpa using hIl))
    refine kN _ _ led3 C3 ⟨by walk_at "lk", fun p hp => kp3 p (kp p (.tail _ (hs p hp)) ?_) ?_, rows3, R3.kp C kp3 (fun a ha => ?_) (by simpa using Ne.symm hIl), fun x => ?_⟩
    · rw [List.mem_singleton]; exact f1 p hp
    · rw [List.mem_singleton]; exact hIne p (hs p hp)
    · rw [List.mem_singleton.mp ha]
      exact ⟨o, kp (I, o) (.head _) (by simpa using hIl), hIo.mut⟩
    · rw [hm3 x, hm x, take_snoc hi, mem_append, not_or, and_assoc]
      have : Mem [rows2[i]] x ↔ rows2[i].1 ≤ x ∧ x < rows2[i].1 + (rows2[i].2 - rows2[i].1) := by
        rw [show [rows2[i]] = [(rows2[i].1, rows2[i].2)] from rfl, mem_one]
        constructor <;> (rintro ⟨a, b⟩; omega)
      rw [this]
  · rintro m' led' s E' ⟨m1, hs, rows', R', hm⟩ C
    walk_at "xn"
    walk_at "xc"
    refine wpAny_Return_some ?_
    refine nm_l C (by walk_at "lk") ?_ rfl rfl (by decide)
    walk_at "ar"
    try walk_at "rt"
    exact kQ _ _ _ _ C (fun C => K f lf rows' led' _ hs f1 R' (fun x => by rw [hm x, List.take_of_length_le (by omega)]) C)
end
end Mine
end

section
open PySem PySem.W PySem.Calls PyProof.Rows PyProof.Rows.LCg
namespace Mine
noncomputable def lex (p q : Int × Int) : Bool := decide (p.1 < q.1 ∨ p.1 = q.1 ∧ p.2 < q.2)
section
variable {prog : Program} {w : World} {c : Cfg} {A : Around} {n : Nat} {m : Loc} {led : Led} {s : Shared} {E : Value → Shared → Prop}
theorem Cx.in1 (C : Cx w c A (n + 1) m led s) : Cx w c A.in1 n m led s :=
  ⟨C.B, C.F, C.N, C.nd, C.X, C.T, C.hA, C.hf, C.hk, C.hh, by have := C.hd; show A.depth + _ < _; lia, by have := C.hu; show A.units + 1 + _ < _; lia, C.hg, C.ho⟩
theorem tup_lt {t1 t2 : Addr} {a b a' b' : Int} {k1 k2 k3 k4 : Tok} {j1 j2 : Nat} {Q : Value → Shared → Prop} (h1 : s.heap.get? t1 = some (tupO [.int a k1, .int b k2] j1)) (h2 : s.heap.get? t2 = some (tupO [.int a' k3, .int b' k4] j2)) (hu : A.units < cLine)
    (h : Q (.bool (lex (a, b) (a', b'))) s) : wpAny (model prog w) A (richCompare .Lt (.ref t1) (.ref t2)) Q E s := by
  have hT1 : s.TypeIs (.ref t1) "tuple" := ⟨_, h1, rfl⟩
  have hT2 : s.TypeIs (.ref t2) "tuple" := ⟨_, h2, rfl⟩
  refine wpAny_richCompare_same_room hT1 hT2 PySem.F.slot_tuple_lt (wpAny_call_entry PySem.F.slot_tuple_lt hT1 PySem.F.entry_tuple_lt ?_ (PySem.F.args_tuple_lt_2 _ _)) hu
  unfold Builtin.«tuple.__lt__»
  wp_delta
  refine wpAny_bind (m := slotArgs _ _ _) (wpAny_pure ?_)
  dsimp only
  refine wpAny_bind (wpAny_isInstance hT2 (b := true) (by rw [isSubtype_type]; kernel_rfl) ?_)
  simp only [Bool.not_true, Bool.false_eq_true, if_false]
  unfold Builtin.Tuple.tupleItemsOf
  refine wpAny_bind (wpAny_bind (wpAny_seqItems h1 rfl (wpAny_pure ?_)))
  refine wpAny_bind (wpAny_bind (wpAny_seqItems h2 rfl (wpAny_pure ?_)))
  refine wpAny_bind ?_
  have e : ([Value.int a k1, .int b k2].toArray.toList.zip [Value.int a' k3, .int b' k4].toArray.toList) = [(.int a k1, .int a' k3), (.int b k2, .int b' k4)] := rfl
  rw [e, List.forIn_cons]
  refine wpAny_bind (wpAny_bind (wpAny_eqBool_int ?_))
  by_cases q : a = a'
  · rw [show (a == a') = true from beq_iff_eq.mpr q]
    simp only [Bool.not_true, Bool.false_eq_true, if_false]
    refine wpAny_pure ?_
    dsimp only
    rw [List.forIn_cons]
    refine wpAny_bind (wpAny_bind (wpAny_eqBool_int ?_))
    by_cases q2 : b = b'
    · rw [show (b == b') = true from beq_iff_eq.mpr q2]
      simp only [Bool.not_true, Bool.false_eq_true, if_false]
      refine wpAny_pure ?_
      dsimp only
      rw [List.forIn_nil]
      refine wpAny_pure ?_
      dsimp only
      refine wpAny_pure ⟨_, rfl, by simp [Builtin.Tuple.tupleCompareSizes], ?_⟩
      have : lex (a, b) (a', b') = false := by unfold lex; rw [decide_eq_false]; rintro (z | ⟨_, z⟩) <;> simp_all
      rw [this] at h
      exact h
    · rw [show (b == b') = false from beq_false_of_ne q2]
      simp only [Bool.not_false, if_true]
      refine wpAny_bind (wpAny_rule (wpAny_bind ?_))
      show wpAny _ _ (compareOp .Lt _ _) _ _ _
      refine lt_int ?_
      refine wpAny_bind (wpAny_pure ?_)
      refine wpAny_pure ?_
      dsimp only
      refine wpAny_pure (wpAny_pure ⟨_, rfl, by simp, ?_⟩)
      have : lex (a, b) (a', b') = decide (b < b') := by unfold lex; simp [q]
      rw [this] at h
      exact h
  · rw [show (a == a') = false from beq_false_of_ne q]
    simp only [Bool.not_false, if_true]
    refine wpAny_bind (wpAny_rule (wpAny_bind ?_))
    show wpAny _ _ (compareOp .Lt _ _) _ _ _
    refine lt_int ?_
    refine wpAny_bind (wpAny_pure ?_)
    refine wpAny_pure ?_
    dsimp only
    refine wpAny_pure (wpAny_pure ⟨_, rfl, by simp, ?_⟩)
    have : lex (a, b) (a', b') = decide (a < a') := by unfold lex; simp [q]
    rw [this] at h
    exact h
theorem lex_self (p : Int × Int) : lex p p = false := by unfold lex; simp
theorem lex_t {p q : Int × Int} : lex p q = true ↔ p.1 < q.1 ∨ p.1 = q.1 ∧ p.2 < q.2 := decide_eq_true_iff
theorem lex_tt {p q r : Int × Int} (h : lex p q = true) (g : lex q r = true) : lex p r = true := by
  rw [lex_t] at *
  rcases h with h | ⟨h, h'⟩ <;> rcases g with g | ⟨g, g'⟩
  · exact .inl (Int.lt_trans h g)
  · exact .inl (g ▸ h)
  · exact .inl (h ▸ g)
  · exact .inr ⟨h.trans g, Int.lt_trans h' g'⟩
theorem lex_asy {p q : Int × Int} (h : lex p q = true) : lex q p = false := by
  cases e : lex q p with
  | false => rfl
  | true => have := lex_tt h e; rw [lex_self] at this; cases this
theorem lex_to {p q : Int × Int} (h : p ≠ q) (g : lex p q = false) : lex q p = true := by
  have g : ¬ lex p q = true := by rw [g]; decide
  rw [lex_t] at g ⊢
  rcases Int.lt_trichotomy p.1 q.1 with a | a | a
  · exact absurd (.inl a) g
  · rcases Int.lt_trichotomy p.2 q.2 with b | b | b
    · exact absurd (.inr ⟨a, b⟩) g
    · exact absurd (Prod.ext a b) h
    · exact .inr ⟨a.symm, b⟩
  · exact .inl a
theorem lex_trans {p q r : Int × Int} (h1 : lex q p = true) (h2 : lex r p = false) : lex r q = false := by
  cases e : lex r q with
  | false => rfl
  | true => have := lex_tt e h1; rw [h2] at this; cases this
theorem mapSeq_lst (f : Array Value → Array Value) (vs : List Value) (k : Nat) : ∃ k', Obj.mapSeq f (lstO vs k) = lstO (f vs.toArray).toList k' := ⟨if (f vs.toArray).size == vs.toArray.size then k else k + 1, by simp [Obj.mapSeq, PySem.W.listOf]⟩
theorem min_loop {A : Around} {l I S : Addr} {ys : List Value} {zs : Rows} {k : Nat} {R : Result → Shared → Prop} (hm : (l, lstO ys k) ∈ led) (hy : RowsV led ys zs) (hu : A.in1.units < cLine)
    (hR : ∀ vb z s, RowIs led vb z → z ∈ zs → (∀ z' ∈ zs, lex z' z = false) → Cx w c A.in1 n m led s → R (.ok (.ret vb)) s) :
    ∀ (d j : Nat) (z : Int × Int) (vb : Value) (oI : Obj) (k' : Nat) (s : Shared), zs.length - (j + 1) = d → j + 1 ≤ zs.length → Cx w c A.in1 n m ((S, lstO [vb, vb] k') :: (I, oI) :: led) s → IsLi oI l (j + 1) → RowIs led vb z → z ∈ zs → (∀ i (h : i < zs.length), i < j + 1 → lex zs[i] z = false) →
      codeAny (model prog w) A (.builtin "min.loop" ⟨[.ref I, .none, .ref S], []⟩) R s := by
  have hname : (toString "min" ++ toString ".loop" : String) = "min.loop" := by decide
  have hlen := hy.len
  intro d
  induction d with
  | zero =>
    intro j z vb oI k' s hd hj C hI hz hzm hall
    refine codeAny_builtin PySem.F.entry_min_loop ?_
    rw [Around.under_plainId PySem.F.plain_min_loop _]
    show wpAny _ A.in1 (seqItems? (.ref S) >>= _) _ _ s
    refine wpAny_bind (wpAny_seqItems (C.get (.head _)) rfl ?_)
    show wpAny _ A.in1 (tryCatch (pyNext (.ref I)) _ >>= _) _ _ s
    refine wpAny_bind (wpAny_tryCatch ?_)
    refine next_end C.swap hI (.tail _ hm) (List.getElem?_eq_none (by omega)) fun s C => ?_
    show wpAny _ A.in1 (updateSeq S (fun _ => #[]) >>= _) _ _ _
    refine wpAny_bind ?_
    refine wpAny_updateSeq (C.get (.head _)) rfl (wpAny_bind (wpAny_letGo (wpAny_pure ?_)))
    refine hR vb z _ hz hzm (fun z' hz' => ?_) (C.forget (s' := { s with heap := s.heap.update S (Obj.mapSeq fun _ => #[]) }) fun b ob hb e => (Heap.get?_update_other _ _ (Ne.symm hb)).trans e)
    obtain ⟨i, hi, rfl⟩ := List.getElem_of_mem hz'
    exact hall i hi (by omega)
  | succ d ih =>
    intro j z vb oI k' s hd hj C hI hz hzm hall
    have hlt : j + 1 < zs.length := by omega
    refine codeAny_builtin PySem.F.entry_min_loop ?_
    rw [Around.under_plainId PySem.F.plain_min_loop _]
    show wpAny _ A.in1 (seqItems? (.ref S) >>= _) _ _ s
    refine wpAny_bind (wpAny_seqItems (C.get (.head _)) rfl ?_)
    show wpAny _ A.in1 (tryCatch (pyNext (.ref I)) _ >>= _) _ _ s
    refine wpAny_bind (wpAny_tryCatch ?_)
    obtain ⟨v, hv, hvr⟩ := hy.get (j + 1) hlt
    refine next_item C.swap hI (.tail _ hm) hv fun oI s hI C => ?_
    replace C := C.swap
    show wpAny _ A.in1 (tryCatch (holding [v, v] (richCompare .Lt v vb >>= _)) _ >>= _) _ _ _
    have hz0 := hz
    have hv0 := hvr
    obtain ⟨t1, p1, p2, j1, rfl, hm1⟩ := hvr
    obtain ⟨t2, p3, p4, j2, rfl, hm2⟩ := hz
    refine wpAny_bind (wpAny_tryCatch (wpAny_holding (wpAny_bind (tup_lt (C.get (.tail _ (.tail _ hm1))) (C.get (.tail _ (.tail _ hm2))) hu ?_))))
    refine wpAny_bind (wpAny_holding (wpAny_truthy_bool ?_))
    refine wpAny_bind (wpAny_letGo (wpAny_pure ?_))
    cases hb : lex (zs[j + 1].1, zs[j + 1].2) (z.1, z.2) with
    | true =>
      simp only [if_true]
      refine wpAny_bind ?_
      refine wpAny_updateSeq (C.get (.head _)) rfl (wpAny_bind (wpAny_letGo ?_))
      rw [hname]
      obtain ⟨k2, e2⟩ := mapSeq_lst (fun _ => #[Value.ref t1, Value.ref t1]) [Value.ref t2, Value.ref t2] k'
      have C2 : Cx w c A.in1 n m ((S, lstO [.ref t1, .ref t1] k2) :: (I, oI) :: led) { s with heap := s.heap.update S (Obj.mapSeq fun _ => #[Value.ref t1, Value.ref t1]) } :=
        C.set (Heap.SameBut.update ..) (by rw [Heap.get?_update_self _ (C.get (.head _)) (by rw [e2]; rfl), e2])
      refine wpAny_pure ⟨plainId_quiet PySem.F.plain_min_loop _, ih (j + 1) zs[j + 1] _ oI _ _ (by omega) hlt C2 hI hv0 (List.getElem_mem hlt) fun i hi hij => ?_⟩
      rcases Nat.lt_succ_iff_lt_or_eq.mp hij with q | rfl
      · exact lex_trans hb (hall i hi q)
      · exact lex_self _
    | false =>
      simp only [Bool.false_eq_true, if_false]
      refine wpAny_bind (wpAny_letGo ?_)
      rw [hname]
      refine wpAny_pure ⟨plainId_quiet PySem.F.plain_min_loop _, ih (j + 1) z _ oI _ _ (by omega) hlt C.same hI hz0 hzm fun i hi hij => ?_⟩
      rcases Nat.lt_succ_iff_lt_or_eq.mp hij with q | rfl
      · exact hall i hi q
      · exact hb
theorem min_tup {l : Addr} {ys : List Value} {zs : Rows} {k : Nat} {Q : Value → Shared → Prop} (C : Cx w c A (n + 2) m led s) (hm : (l, lstO ys k) ∈ led) (hy : RowsV led ys zs) (hne : 0 < zs.length)
    (h : ∀ vb z s, RowIs led vb z → z ∈ zs → (∀ z' ∈ zs, lex z' z = false) → Cx w c A (n + 2) m led s → Q vb s) : wpAny (model prog w) A (call (.builtin "min") [.ref l]) Q E s := by
  have C₀ := C
  have hname : (toString "min" ++ toString ".loop" : String) = "min.loop" := by decide
  have hlen := hy.len
  refine call_function_tree PySem.F.kind_min PySem.F.plain_min PySem.F.entry_min (PySem.F.args_min1 _) ?_
  show wpAny _ A.in1 (Builtin.Builtins.bindParams "min" ["key", "default"] 0 ⟨[], []⟩ >>= _) _ _ s
  refine wpAny_bind (wpAny_of_eq (show Builtin.Builtins.bindParams "min" ["key", "default"] 0 ⟨[], []⟩ = pure [none, none] from rfl) ?_)
  refine wpAny_bind (wpAny_pure ?_)
  refine wpAny_bind (iter_list C.in1 hm fun I oI s hI C => ?_)
  refine wpAny_bind (mk_list C (Nat.zero_le _) fun S s C => ?_)
  rw [hname]
  have hu : A.in1.units < cLine := by have := C.hu; lia
  refine wpAny_pure ⟨plainId_quiet PySem.F.plain_min_loop _, ?_⟩
  refine codeAny_builtin PySem.F.entry_min_loop ?_
  rw [Around.under_plainId PySem.F.plain_min_loop _]
  show wpAny _ A.in1 (seqItems? (.ref S) >>= _) _ _ s
  refine wpAny_bind (wpAny_seqItems (C.get (.head _)) rfl ?_)
  show wpAny _ A.in1 (tryCatch (pyNext (.ref I)) _ >>= _) _ _ s
  refine wpAny_bind (wpAny_tryCatch ?_)
  obtain ⟨v, hv, hvr⟩ := hy.get 0 hne
  refine next_item C.swap hI (.tail _ hm) hv fun oI s hI C => ?_
  replace C := C.swap
  refine wpAny_bind (wpAny_pure ?_)
  refine wpAny_bind ?_
  refine wpAny_updateSeq (f := fun _ => #[v, v]) (C.get (.head _)) rfl ?_
  rw [hname]
  obtain ⟨k2, e2⟩ := mapSeq_lst (fun _ => #[v, v]) [] 0
  have C2 : Cx w c A.in1 (n + 1) m ((S, lstO [v, v] k2) :: (I, oI) :: led) { s with heap := s.heap.update S (Obj.mapSeq fun _ => #[v, v]) } :=
    C.set (Heap.SameBut.update ..) (by rw [Heap.get?_update_self _ (C.get (.head _)) (by rw [e2]; rfl), e2])
  refine wpAny_pure ⟨plainId_quiet PySem.F.plain_min_loop _, min_loop hm hy hu (fun vb z s h1 h2 h3 C => ?_) _ 0 zs[0] v oI _ _ rfl hne C2 hI hvr (List.getElem_mem hne) fun i hi hij => ?_⟩
  · exact h vb z s h1 h2 h3 (C.unmake C₀)
  · obtain rfl : i = 0 := by lia
    exact lex_self _
noncomputable def datR (r : Int × Int) : Dat := .tuple [.int r.1, .int r.2]
theorem datR_inj : ∀ {a b : Rows}, a.map datR = b.map datR → a = b
  | [], [], _ => rfl
  | [], _ :: _, h => by cases h
  | _ :: _, [], h => by cases h
  | (p, q) :: a, (p', q') :: b, h => by
    simp only [List.map_cons, datR, List.cons.injEq, Dat.tuple.injEq, Dat.int.injEq, and_true] at h
    obtain ⟨⟨rfl, rfl⟩, h⟩ := h
    rw [datR_inj (a := a) (b := b) h]
theorem RowsV.dat : ∀ {vs : List Value} {ps : Rows}, RowsV led vs ps → DatAll led vs (ps.map datR)
  | [], [], _ => .nil
  | _ :: _, _ :: _, h => by
    obtain ⟨t, k1, k2, j, rfl, hm⟩ := h.1
    exact .cons (.tuple hm (.cons (.int _ _) (.cons (.int _ _) .nil))) h.2.dat
theorem datR_ok (ps : Rows) : ∀ d ∈ ps.map datR, kqdOk 8 d = true := fun d hd => by
  obtain ⟨r, _, rfl⟩ := List.mem_map.mp hd
  rfl
theorem ne_rows {a b : Addr} {vs ws : List Value} {ps qs : Rows} {k j : Nat} {Q : Value → Shared → Prop} (C : Cx w c A (n + 1) m led s) (ha : (a, lstO vs k) ∈ led) (hv : RowsV led vs ps) (hb : (b, lstO ws j) ∈ led) (hw : RowsV led ws qs)
    (h : Q (.bool (!decide (ps = qs))) s) : wpAny (model prog w) A (compareOp .NotEq (.ref a) (.ref b)) Q E s := by
  refine kqd_ne C.N ha rfl rfl hv.dat (fun p hp => hp) hb rfl rfl hw.dat (fun p hp => hp) (datR_ok _) (datR_ok _) (by have := C.hu; lia) ?_
  have e : ∀ i : Decidable (ps.map datR = qs.map datR), @decide _ i = decide (ps = qs) := fun i => by
    by_cases q : ps = qs
    · rw [decide_eq_true q]; exact @decide_eq_true _ i (congrArg (List.map datR) q)
    · rw [decide_eq_false q]; exact @decide_eq_false _ i fun z => q (datR_inj z)
  rw [e]; exact h
theorem ne_ints {a b : Addr} {vs ws : List Value} {ps qs : List Int} {k j : Nat} {Q : Value → Shared → Prop} (C : Cx w c A (n + 1) m led s) (ha : (a, lstO vs k) ∈ led) (hv : IntsAre vs ps) (hb : (b, lstO ws j) ∈ led) (hw : IntsAre ws qs)
    (h : Q (.bool (!decide (ps = qs))) s) : wpAny (model prog w) A (compareOp .NotEq (.ref a) (.ref b)) Q E s :=
  ke_ne_ints (C.lst ha) (C.lst hb) hv hw (by have := C.hu; omega) h
end
end Mine
end

section
open PySem PySem.W PySem.Calls PyProof.Rows PyProof.Rows.LCg
namespace Mine
noncomputable def fitK (rows : Rows) (y : Int) : Rows := (rows.filter fun r => decide (y ≤ r.2 - r.1)).map fun r => (r.2 - r.1, r.1)
noncomputable def BestI (rows : Rows) (y : Int) (v : Value) : Prop := (fitK rows y = [] ∧ v = .none) ∨ ∃ z t, v = .int (z : Int × Int).2 t ∧ z ∈ fitK rows y ∧ ∀ z' ∈ fitK rows y, lex z' z = false
theorem RowsV.nil' : ∀ led, RowsV led [] [] := fun _ => trivial
theorem RowsV.len' : ∀ led ys zs, RowsV led ys zs → ys.length = zs.length := fun _ _ _ h => h.len
section
variable {prog : Program} {w : World} {c : Cfg} {A : Around} {n : Nat} {m : Loc} {led : Led} {s : Shared} {E : Value → Shared → Prop}
theorem best_v {r l : Addr} {rows : Rows} {y : Int} {t1 : Tok} {Q : Value → Shared → Prop} (C : Cx w c A (n + 3) m led s) (R : RgV led r l rows)
    (K : ∀ v s, BestI rows y v → Cx w c A (n + 3) m led s → Q v s) : wpAny (model prog w) A (call (.ref 134) [.ref r, .int y t1]) Q E s := by
  obtain ⟨items, k, R⟩ := R
  have hr := R.hr; have hl := R.hl; have hv := R.hv; have hz := R.hg.len
  have nd := C.nd
  refine enterC (binds := [(Str.ofString "self", .ref r), (Str.ofString "many", .int y t1)]) C (by k_is) (by k_is) (BindsTo.of_eq rfl) rfl (by decide) (fun c A E s cells Y hne C Qr kQ => ?_) rfl rfl rfl
  obtain ⟨oM, rfl, hM⟩ := CellsAre.one Y
  have hv_many : cellO oM (.int y t1) := hM
  walk_at "xc"
  refine rows_assign RowsV (fun r => decide (y ≤ r.2 - r.1)) (fun r => (r.2 - r.1, r.1)) (cnd := some _) (cl := [(Str.ofString "many", c.L + 1)]) C rfl rfl rfl rfl RowsV.nil' RowsV.len' rfl (by decide) rfl (by decide) (fun _ => rfl) (fun _ => rfl) (by decide) ?_
  refine Attribute_any_ ?_
  refine nm_lC C (by walk_at "lk") ?_ rfl rfl (by decide)
  refine at_rows C (hr.mono fun p hp => .tail _ hp) fun s C => ?_
  refine ⟨_, _, l, items, k, rows, rfl, C, .tail _ hl, hv.mono fun p hp => .tail _ hp, by lia, ?_, ?_⟩
  · intro i hi ys led' s E' a D oC m2 I o j t1 t2 hs hn h1 h2 C
    have hc := hs _ (.head _)
    refine wpAny_isTrue_Compare1 ?_
    refine wpAny_BinOp ?_
    refine nm_v C (by walk_at "mm") hn (by walk_at "lk") rfl rfl rfl (by decide) ?_
    refine nm_v C (by walk_at "mm") hn (by walk_at "lk") rfl rfl rfl (by decide) ?_
    with_reducible refine a_sub C fun t s C => ?_
    refine nm_k C (by walk_at "mm") hv_many rfl rfl rfl (by decide) ?_
    refine ge_int ?_
    refine wpAny_truthy_bool ?_
    refine ite_dec (fun g => ?_) (fun g => ?_)
    · refine Tuple_ ?_
      refine spliced_more ?_
      refine wpAny_BinOp ?_
      refine nm_v C (by walk_at "mm") hn (by walk_at "lk") rfl rfl rfl (by decide) ?_
      refine nm_v C (by walk_at "mm") hn (by walk_at "lk") rfl rfl rfl (by decide) ?_
      with_reducible refine a_sub C fun t s C => ?_
      refine spliced_more ?_
      refine nm_v C (by walk_at "mm") hn (by walk_at "lk") rfl rfl rfl (by decide) ?_
      refine spliced_none ?_
      refine mk_tup C (Nat.le_of_ble_eq_true rfl) fun D s C => ?_
      replace C := Cx.push (a := [_, _, _]) C
      exact ⟨_, _, _, hn, C, fun p hp => .tail _ hp, decide_eq_true g, fun zs h => (h.mono fun p hp => .tail _ hp).append (RowsV.one ⟨_, _, _, _, rfl, .head _⟩)⟩
    · exact ⟨_, _, hn, C, decide_eq_false g⟩
  · intro ys led' hs hy s D j C
    have hy' : RowsV led' ys (fitK rows y) := hy
    walk_at "xc"
    refine wpAny_Return_some ?_
    refine IfExp_ ?_
    refine wpAny_isTrue_Compare1 ?_
    refine nm_lC C (by walk_at "lk") ?_ rfl rfl (by decide)
    refine List_ ?_
    refine spliced_none ?_
    refine mk_list C (Nat.le_of_ble_eq_true rfl) fun D s C => ?_
    refine ne_rows C (.tail _ (.head _)) (hy'.mono fun p hp => .tail _ (.tail _ hp)) (.head _) (RowsV.nil' _) ?_
    refine wpAny_truthy_bool ?_
    by_cases he : fitK rows y = []
    · refine ite_f (by rw [decide_eq_true he]; rfl) ?_
      refine Constant_none ?_
      try walk_at "rt"
      exact kQ _ _ _ _ (C.drop.drop.back (fun p hp => hs _ (.tail _ hp)) nd) (fun C => K _ _ (.inl ⟨he, rfl⟩) C)
    · refine ite_t (by rw [decide_eq_false he]; rfl) ?_
      replace C := C.drop
      refine Subscript_ ?_
      refine Call_ ?_
      refine nm_bC C (by k_is) (by boot_fast) ?_ (by decide) rfl rfl (by decide)
      refine PyProof.Rows.callWith_builtin1 ?_
      refine spliced_more ?_
      refine nm_lC C (by walk_at "lk") ?_ rfl rfl (by decide)
      refine spliced_none ?_
      refine min_tup C (.head _) (hy'.mono fun p hp => .tail _ hp) (List.length_pos_iff.mpr he) fun vb z s hz h1 h2 C => ?_
      with_reducible refine k_int C fun t s C => ?_
      skip
      obtain ⟨t, k1, k2, j, rfl, hm⟩ := hz
      refine it_tup C hm (by decide) (by decide) rfl rfl ?_ (by with_unfolding_all rfl)
      try walk_at "rt"
      exact kQ _ _ _ _ (C.drop.back (fun p hp => hs _ (.tail _ hp)) nd) (fun C => K _ _ (.inr ⟨z, _, rfl, h1, h2⟩) C)
end
end Mine
end

section
open PySem PySem.W PySem.Calls PyProof.Rows PyProof.Rows.LCg
namespace Mine
noncomputable def IsKi (o : Obj) (d : Addr) (i N ep : Nat) : Prop := o.cls = .type "dict_keyiterator" ∧ o.data = .fields #[.ref d, .int i 0, .int N 0, .int ep 0]
section
variable {prog : Program} {w : World} {c : Cfg} {A : Around} {n : Nat} {m : Loc} {led : Led} {s : Shared} {E : Value → Shared → Prop}
structure DcAt (prog : Program) (w : World) (o : Obj) (kvs : List (Int × Value)) (ep : Nat) : Prop where
  ex : ∃ es, o.ExactDict ∧ o.data = .dict es ep ∧ KeysOf (intKind prog w) es ∧ Pairs (intKind prog w) es.toList kvs ∧ (kvs.map (·.1)).Nodup
theorem DcI.at {d : Addr} {o : Obj} {kvs : List (Int × Value)} (h : DcI prog w d o kvs) : ∃ ep, DcAt prog w o kvs ep := let ⟨es, ep, x⟩ := h.is; ⟨ep, ⟨es, x⟩⟩
theorem DcAt.heap {d : Addr} {o : Obj} {kvs : List (Int × Value)} {ep : Nat} (h : DcAt prog w o kvs ep) (ho : s.heap.get? d = some o) : s.heap.DictAt (intKind prog w) d kvs ep := let ⟨es, x⟩ := h.ex; ⟨o, es, ho, x⟩
theorem Cx.ki {I d : Addr} {o : Obj} {i N ep : Nat} (C : Cx w c A n m ((I, o) :: led) s) (h : IsKi o d i N ep) : s.heap.IsKeyIter I d i N ep := ⟨o, C.get (.head _), h.1, h.2⟩
theorem iter_dict {d : Addr} {o : Obj} {kvs : List (Int × Value)} {Q : Value → Shared → Prop} (C : Cx w c A n m led s) (hm : (d, o) ∈ led) (hd : DcI prog w d o kvs) (h : ∀ I oI ep s, DcAt prog w o kvs ep → IsKi oI d 0 kvs.length ep → Cx w c A n m ((I, oI) :: led) s → Q (.ref I) s) : wpAny (model prog w) A (pyIter (.ref d)) Q E s := by
  obtain ⟨ep, ha⟩ := hd.at
  exact wpAny_pyIter_dict hd.lo (ha.heap (C.get hm)) (h _ _ ep _ ha ⟨rfl, rfl⟩ (C.new (s' := { s with heap := s.heap.push _ }) (fun _ _ e => Heap.get?_push_of_some _ e) (Heap.get?_push_size _ rfl) rfl))
theorem next_key {I d : Addr} {oI o : Obj} {kvs : List (Int × Value)} {i ep : Nat} {k : Int} {v : Value} {Q : Option Value → Shared → Prop} (C : Cx w c A n m ((I, oI) :: led) s) (hI : IsKi oI d i kvs.length ep) (ha : DcAt prog w o kvs ep) (hm : (d, o) ∈ led) (hx : kvs[i]? = some (k, v))
    (h : ∀ t o s, IsKi o d (i + 1) kvs.length ep → Cx w c A n m ((I, o) :: led) s → Q (some (.int k t)) s) : wpAny (model prog w) A (pyNext (.ref I)) Q E s :=
  wpAny_pyNext_dict_item (C.ki hI) (ha.heap (C.get (.tail _ hm))) hx fun key h' hk hit hs => by
    obtain ⟨o', ho', h1, h2⟩ := hit
    obtain ⟨t, rfl⟩ := Value.isInt_shape hk
    exact h t o' _ ⟨h1, h2⟩ (C.set hs ho')
theorem key_end {I d : Addr} {oI o : Obj} {kvs : List (Int × Value)} {i ep : Nat} {Q : Option Value → Shared → Prop} (C : Cx w c A n m ((I, oI) :: led) s) (hI : IsKi oI d i kvs.length ep) (ha : DcAt prog w o kvs ep) (hm : (d, o) ∈ led) (hx : kvs[i]? = none)
    (h : ∀ s, Cx w c A n m led s → Q none s) : wpAny (model prog w) A (pyNext (.ref I)) Q E s :=
  wpAny_pyNext_dict_end C.hh (C.ki hI) (ha.heap (C.get (.tail _ hm))) hx fun h' he => h _ (C.forget he)
inductive CmpD (prog : Program) (w : World) (c : Cfg) (A : Around) (n : Nat) (x : Str) (elt : PySem.Expr) (scope : Scope) (cl : List (Str × Addr)) (env : Env) (Q : Value → Shared → Prop) (xv : Value) (s : Shared) : Prop
  | mk (m : Loc) (led : Led) (d : Addr) (o : Obj) (kvs : List (Int × Value)) (e : xv = .ref d) (C : Cx w c A n m led s) (hm : (d, o) ∈ led) (hd : DcI prog w d o kvs) (hz : kvs.length ≤ 1000) (J : Nat → List Value → Led → Prop)
      (hJ : ∀ i ys led, J i ys led → (d, o) ∈ led ∧ ys.length ≤ i) (h0 : J 0 [] led)
      (turn : ∀ i ys led s k v t E' a D oC m2 I o j, kvs[i]? = some (k, v) → J i ys led → NsObj oC m2 → m2 x = some (.int k t) → Cx w c A n m ((a, oC) :: (D, lstO ys j) :: (I, o) :: led) s →
        wpAny (model prog w) A (eval elt (compEnvC scope cl a env)) (fun y s => CmpN w c A n m a D I o j ys (J (i + 1) (ys ++ [y])) s) E' s)
      (done : ∀ ys led s D j, J kvs.length ys led → Cx w c A n m ((D, lstO ys j) :: led) s → Q (.ref D) s) : CmpD prog w c A n x elt scope cl env Q xv s
inductive CmpK (w : World) (c : Cfg) (A : Around) (n : Nat) (m : Loc) (a D I d : Addr) (N ep : Nat) (J : Nat → List Value → Led → Prop) (q : Nat) (s : Shared) : Prop
  | mk (i : Nat) (ys : List Value) (led : Led) (oC : Obj) (m2 : Loc) (o : Obj) (j : Nat) (e : q = N - i) (hi : i ≤ N) (hI : IsKi o d i N ep) (hn : NsObj oC m2) (C : Cx w c A n m ((a, oC) :: (D, lstO ys j) :: (I, o) :: led) s) (hj : J i ys led) : CmpK w c A n m a D I d N ep J q s
theorem dict_turn {elt iter : PySem.Expr} {x : Str} {px : Pos} {scope : Scope} {cl : List (Str × Addr)} {pos : Pos} {env : Env} {a D I d : Addr} {o oI oC : Obj} {kvs : List (Int × Value)} {i ep j : Nat} {ys : List Value} {m2 : Loc} {J : Nat → List Value → Led → Prop} {Q : PySem.Fin → Shared → Prop}
    (hkind : scope.kind = .function) (hxl : ∀ a, (compEnvC scope cl a env).kindOf x = some .local)
    (C : Cx w c A n m ((a, oC) :: (D, lstO ys j) :: (I, oI) :: led) s) (ha : DcAt prog w o kvs ep) (hI : IsKi oI d i kvs.length ep) (hi : i ≤ kvs.length) (hml : (d, o) ∈ led) (hys : ys.length ≤ 100000) (hn : NsObj oC m2)
    (turn : ∀ s k v t E' oC m2 o j, kvs[i]? = some (k, v) → NsObj oC m2 → m2 x = some (.int k t) → Cx w c A n m ((a, oC) :: (D, lstO ys j) :: (I, o) :: led) s →
        wpAny (model prog w) A (eval elt (compEnvC scope cl a env)) (fun y s => CmpN w c A n m a D I o j ys (J (i + 1) (ys ++ [y])) s) E' s)
    (more : ∀ s, i < kvs.length → CmpK w c A n m a D I d kvs.length ep J (kvs.length - (i + 1)) s → Q (.again (.compLoop (.ListComp elt [⟨.Name x px, iter, [], 0⟩] scope pos) 0 (.ref I) (.ref D) (compEnvC scope cl a env))) s)
    (done : ∀ s, i = kvs.length → Cx w c A n m ((a, oC) :: (D, lstO ys j) :: led) s → Q (.done .next) s) :
    wpAny (model prog w) A (compTurn (.ListComp elt [⟨.Name x px, iter, [], 0⟩] scope pos) 0 (.ref I) (.ref D) (compEnvC scope cl a env)) Q E s := by
  unfold compTurn
  dsimp only [List.getElem?_cons_zero]
  refine wpAny_bind (wpAny_standAt ?_)
  rw [if_neg (by decide)]
  have C1 : Cx w c A n m ((I, oI) :: (a, oC) :: (D, lstO ys j) :: led) s := C.perm (List.perm_middle (l₁ := [_, _]))
  have hml : (d, o) ∈ (a, oC) :: (D, lstO ys j) :: led := .tail _ (.tail _ hml)
  by_cases hlt : i < kvs.length
  · refine wpAny_bind (next_key C1 hI ha hml (List.getElem?_eq_getElem hlt) fun t o' s hI' C' => ?_)
    refine wpAny_bind (wpAny_pure ?_)
    refine wpAny_bind (wpAny_assign_Name (st_v (C'.perm (List.perm_middle (l₁ := [_, _])).symm) hn rfl (hxl a) (by simp [compEnvC, relabel, hkind]) fun oC s hn C => ?_))
    simp only [List.forIn_nil]
    refine wpAny_bind (wpAny_pure ?_)
    simp only [if_true]
    show wpAny _ _ (do (do let _ ← call (.builtin "list.append") [.ref D, ← eval elt _] : Sem Unit); again _) _ _ _
    refine wpAny_bind (wpAny_bind (wpAny_mono (turn s _ _ t _ oC _ o' j (List.getElem?_eq_getElem hlt) hn upd_s C) (fun y s h => ?_) fun _ _ e => e))
    obtain ⟨oC, m2, led', hn, C3, hj'⟩ := h
    refine wpAny_bind (b_append (C3.perm (List.perm_middle (l₁ := [_]))) hys fun s C4 => ?_)
    exact wpAny_pure (wpAny_pure (more _ hlt ⟨i + 1, ys ++ [y], led', oC, m2, o', j + 1, rfl, hlt, hI', hn, C4.perm (List.perm_middle (l₁ := [_])).symm, hj'⟩))
  · have e : i = kvs.length := Nat.le_antisymm hi (Nat.le_of_not_lt hlt)
    subst e
    refine wpAny_bind (key_end C1 hI ha hml (List.getElem?_eq_none (Nat.le_refl _)) fun s C' => ?_)
    exact wpAny_pure (done s rfl C')
theorem comp_dict {elt iter : PySem.Expr} {x : Str} {px : Pos} {scope : Scope} {cl : List (Str × Addr)} {pos : Pos} {env : Env} {Q : Value → Shared → Prop}
    (hclos : closureFor scope env = pure cl) (hcell : ∀ y ∈ scope.names, y.2 ≠ .cell) (hkind : scope.kind = .function) (hnames : ∀ y ∈ scope.names, y.2 = .local → scope.names.lookup y.1 = some .local)
    (hxl : ∀ a, (compEnvC scope cl a env).kindOf x = some .local)
    (h : wpAny (model prog w) A (eval iter env) (CmpD prog w c A n x elt scope cl env Q) E s)
    (hs : ∀ y, foldedSetIterable iter env y = pure y := by intro _; rfl) :
    wpAny (model prog w) A (eval (.ListComp elt [⟨.Name x px, iter, [], 0⟩] scope pos) env) Q E s := by
  rw [eval_ListComp]
  refine wpAny_comprehension_free (use := none) rfl hs hclos hkind hnames (wpAny_mono h (fun xv s₁ h₁ => ?_) fun _ _ e => e)
  obtain ⟨m, led, d, o, kvs, rfl, C, hm, hd, hz, J, hJ, h0, turn, done⟩ := h₁
  refine iter_dict C hm hd fun I oI ep s ha hI C => ?_
  refine mk_list C (Nat.zero_le _) fun D s C => ?_
  refine wpAny_newFunctionEnv hcell (by intro y hy; simp at hy) (fun h' hns hsb => ?_) hkind
  obtain ⟨oC, hoC, hnC⟩ := ns_obj hns
  have C' : Cx w c A n m ((s.heap.objs.size, oC) :: (D, lstO [] 0) :: (I, oI) :: led) { s with heap := h', toks := s.toks + ([] : List (Str × Value)).length } :=
    C.new (fun b o e => hsb.extBut b o (Nat.ne_of_lt (Heap.lt_size e)) (Heap.get?_push_of_some _ e)) hoC rfl
  have loop : ∀ (a : Addr) (R : Result → Shared → Prop) (s : Shared), Cx w c A n m ((a, oC) :: (D, lstO [] 0) :: (I, oI) :: led) s →
      (∀ ys led s j oC m2, J kvs.length ys led → NsObj oC m2 → Cx w c A n m ((a, oC) :: (D, lstO ys j) :: led) s → R (.ok .next) s) →
      codeAny (model prog w) A (.compLoop (.ListComp elt [⟨.Name x px, iter, [], 0⟩] scope pos) 0 (.ref I) (.ref D) (compEnvC scope cl a env)) R s := by
    intro a R s C hR
    refine codeAny_loop rfl (CmpK w c A n m a D I d kvs.length ep J) (fun q s IH => ?_) kvs.length ⟨0, [], led, oC, _, oI, 0, rfl, Nat.zero_le _, hI, hnC, C, h0⟩
    obtain ⟨i, ys, led, oC, m2, oI, j, rfl, hi, hI, hn, C, hj⟩ := IH
    show wpAny _ A ((compTurn (.ListComp elt [⟨.Name x px, iter, [], 0⟩] scope pos) 0 (.ref I) (.ref D) (compEnvC scope cl a env)).onRaise (fun x => do noteFrame x (compEnvC scope cl a env); theTreesLotGoes x)) _ _ s
    refine wpAny_noted ?_
    exact dict_turn hkind hxl C ha hI hi (hJ _ _ _ hj).1 (by have := (hJ _ _ _ hj).2; lia) hn (fun s k v t E' oC m2 o j hv hn hx C => turn i ys led s k v t E' a D oC m2 I o j hv hj hn hx C) (fun s hlt h => ⟨rfl, _, by omega, h⟩) fun s e C => hR ys led s j oC m2 (e ▸ hj) hn C
  refine codeAny_compStart_list (loop _ _ _ C' fun ys led s j oC m2 hj hn C => ?_) ?_
  · exact ⟨m2, hn.ns (C.get (.head _)), fun h' hs => done ys led _ D j hj (C.forget (s' := { s with heap := h' }) hs.extBut)⟩
  · refine wpAny_pyIter_keyiter ((C'.perm (List.perm_middle (l₁ := [_, _]))).ki hI) ?_
    exact loop _ _ _ C' fun ys led s j oC m2 hj hn C => ⟨m2, hn.ns (C.get (.head _)), fun h' hs => done ys led _ D j hj (C.forget (s' := { s with heap := h' }) hs.extBut)⟩
end
end Mine
end

section
open PySem PySem.W PySem.Calls PyProof.Rows PyProof.Rows.LCg
namespace Mine
noncomputable def WsV (led : Led) : List (Int × Value) → List (Int × Rows) → List Addr → Prop
  | [], [], [] => True
  | kv :: kvs, p :: ws, l :: ls => kv.1 = p.1 ∧ (∃ r, kv.2 = .ref r ∧ RgV led r l p.2) ∧ WsV led kvs ws ls
  | _, _, _ => False
namespace WsV
variable {led led' : Led}
theorem keys : ∀ {kvs : List (Int × Value)} {ws : List (Int × Rows)} {ls : List Addr}, WsV led kvs ws ls → kvs.map (·.1) = ws.map (·.1)
  | [], [], [], _ => rfl
  | _ :: _, _ :: _, _ :: _, h => by rw [List.map_cons, List.map_cons, h.1, h.2.2.keys]
theorem len : ∀ {kvs : List (Int × Value)} {ws : List (Int × Rows)} {ls : List Addr}, WsV led kvs ws ls → kvs.length = ws.length ∧ ls.length = ws.length
  | [], [], [], _ => ⟨rfl, rfl⟩
  | _ :: _, _ :: _, _ :: _, h => ⟨congrArg (· + 1) h.2.2.len.1, congrArg (· + 1) h.2.2.len.2⟩
theorem get : ∀ {kvs : List (Int × Value)} {ws : List (Int × Rows)} {ls : List Addr}, WsV led kvs ws ls → ∀ (i : Nat) (k : Int) (v : Value), kvs[i]? = some (k, v) → ∃ rows l r, ws[i]? = some (k, rows) ∧ l ∈ ls ∧ v = .ref r ∧ RgV led r l rows
  | [], [], [], _, i, k, v, e => by simp at e
  | kv :: _, p :: _, l :: _, h, 0, k, v, e => by
    simp only [List.getElem?_cons_zero, Option.some.injEq] at e
    subst e
    obtain ⟨r, e1, R⟩ := h.2.1
    have h1 : k = p.1 := h.1
    exact ⟨p.2, l, r, by rw [h1]; rfl, .head _, e1, R⟩
  | _ :: _, _ :: _, _ :: _, h, i + 1, k, v, e => by
    obtain ⟨rows, l, r, a, b, c⟩ := h.2.2.get i k v e
    exact ⟨rows, l, r, a, .tail _ b, c⟩
theorem mono (hs : ∀ p ∈ led, p ∈ led') : ∀ {kvs : List (Int × Value)} {ws : List (Int × Rows)} {ls : List Addr}, WsV led kvs ws ls → WsV led' kvs ws ls
  | [], [], [], _ => trivial
  | _ :: _, _ :: _, _ :: _, h => ⟨h.1, let ⟨r, e, R⟩ := h.2.1; ⟨r, e, R.mono hs⟩, h.2.2.mono hs⟩
theorem append : ∀ {kvs kvs' : List (Int × Value)} {ws ws' : List (Int × Rows)} {ls ls' : List Addr}, WsV led kvs ws ls → WsV led kvs' ws' ls' → WsV led (kvs ++ kvs') (ws ++ ws') (ls ++ ls')
  | [], _, [], _, [], _, _, g => g
  | _ :: _, _, _ :: _, _, _ :: _, _, h, g => ⟨h.1, h.2.1, h.2.2.append g⟩
theorem lists : ∀ {kvs : List (Int × Value)} {ws : List (Int × Rows)} {ls : List Addr}, WsV led kvs ws ls → ∀ l ∈ ls, ∃ items k, (l, lstO items k) ∈ led
  | [], [], [], _, l, hl => (nomatch hl)
  | _ :: _, _ :: _, _ :: _, h, l, hl => by
    rcases List.mem_cons.mp hl with rfl | hl
    · obtain ⟨_, _, i, k, R⟩ := h.2.1
      exact ⟨i, k, R.hl⟩
    · exact h.2.2.lists l hl
end WsV
theorem valueAt_get {kvs : List (Int × Value)} (hn : (kvs.map (·.1)).Nodup) {i : Nat} {k : Int} {v : Value} (h : kvs[i]? = some (k, v)) : valueAt kvs k = some v := by
  induction kvs generalizing i with
  | nil => simp at h
  | cons p r ih =>
    obtain ⟨h1, h2⟩ := List.nodup_cons.mp hn
    cases i with
    | zero =>
      simp only [List.getElem?_cons_zero, Option.some.injEq] at h
      subst h
      simp [valueAt]
    | succ i =>
      simp only [List.getElem?_cons_succ] at h
      have hne : p.1 ≠ k := fun e => h1 (by show p.1 ∈ _; rw [e]; exact List.mem_map.mpr ⟨_, List.mem_of_getElem? h, rfl⟩)
      have := ih h2 h
      unfold valueAt at this ⊢
      rw [List.find?_cons_of_neg (by simp [hne])]
      exact this
theorem valueAt_none {kvs : List (Int × Value)} {k : Int} (h : k ∉ kvs.map (·.1)) : valueAt kvs k = none := by
  unfold valueAt
  rw [Option.map_eq_none_iff, List.find?_eq_none]
  intro p hp
  simp only [decide_eq_true_eq]
  exact fun e => h (List.mem_map.mpr ⟨p, hp, e⟩)
section
variable {prog : Program} {w : World} {c : Cfg} {A : Around} {n : Nat} {m : Loc} {led : Led} {s : Shared} {E : Value → Shared → Prop}
theorem DcI.mut {d : Addr} {o : Obj} {kvs : List (Int × Value)} (h : DcI prog w d o kvs) : Mut o := by
  obtain ⟨es, ep, x, hd, hk, hp, hn⟩ := h.is
  refine ⟨by rw [x.1]; simp, by rw [x.1]; simp, fun hs tk l k q => ?_⟩
  rw [q] at hd
  simp only [dictOf, Data.dict.injEq] at hd
  obtain ⟨e1, _⟩ := hd
  have := hk ⟨hs, .str (Str.ofString "rows") tk, .ref l⟩ (by rw [← e1]; simp)
  obtain ⟨j, hj, _⟩ := this
  simp [intKind, Value.isInt] at hj
theorem SlObj.mut {o : Obj} {b mn cur : Int} {r wd : Addr} (h : SlObj o b mn r wd cur) : Mut o := by
  obtain ⟨h1, h2, h3, h4, h5, t1, t2, t3, t4, t5, k1, k2, k3, j, rfl⟩ := h
  refine ⟨by simp [dictOf], by simp [dictOf], fun hs tk l k q => ?_⟩
  simp [dictOf] at q
structure SlP (prog : Program) (w : World) (led : Led) (x : Addr) (b mn cur : Int) (dS : Addr) (oS : Obj) (r wd : Addr) (oW : Obj) (lf : Addr) (kvs : List (Int × Value)) (ls : List Addr) (free : Rows) (ws : List (Int × Rows)) : Prop where
  hx : (x, instObj 287 dS) ∈ led
  hS : (dS, oS) ∈ led
  so : SlObj oS b mn r wd cur
  hW : (wd, oW) ∈ led
  dc : DcI prog w wd oW kvs
  fr : RgV led r lf free
  ws : WsV led kvs ws ls
  nd : (dS :: wd :: lf :: ls).Nodup
inductive SlV (prog : Program) (w : World) (led : Led) (x : Addr) (b mn cur : Int) (own : List Addr) (free : Rows) (ws : List (Int × Rows)) : Prop
  | mk (dS : Addr) (oS : Obj) (r wd : Addr) (oW : Obj) (lf : Addr) (kvs : List (Int × Value)) (ls : List Addr) (P : SlP prog w led x b mn cur dS oS r wd oW lf kvs ls free ws) (e : own = dS :: wd :: lf :: ls) : SlV prog w led x b mn cur own free ws
variable {x : Addr} {b mn cur : Int} {dS r wd lf : Addr} {oS oW : Obj} {kvs : List (Int × Value)} {ls : List Addr} {free : Rows} {ws : List (Int × Rows)}
theorem SlP.mono {led' : Led} (P : SlP prog w led x b mn cur dS oS r wd oW lf kvs ls free ws) (h : ∀ p ∈ led, p ∈ led') : SlP prog w led' x b mn cur dS oS r wd oW lf kvs ls free ws :=
  ⟨h _ P.hx, h _ P.hS, P.so, h _ P.hW, P.dc, P.fr.mono h, P.ws.mono h, P.nd⟩
theorem SlV.mono {led' : Led} {own : List Addr} (P : SlV prog w led x b mn cur own free ws) (h : ∀ p ∈ led, p ∈ led') : SlV prog w led' x b mn cur own free ws :=
  let ⟨dS, oS, r, wd, oW, lf, kvs, ls, P, e⟩ := P; ⟨dS, oS, r, wd, oW, lf, kvs, ls, P.mono h, e⟩
theorem all3 {P : Addr → Prop} {a b c : Addr} {l : List Addr} (h1 : P a) (h2 : P b) (h3 : P c) (h : ∀ x ∈ l, P x) : ∀ x ∈ a :: b :: c :: l, P x :=
  List.forall_mem_cons.mpr ⟨h1, List.forall_mem_cons.mpr ⟨h2, List.forall_mem_cons.mpr ⟨h3, h⟩⟩⟩
theorem SlP.muts (P : SlP prog w led x b mn cur dS oS r wd oW lf kvs ls free ws) : ∀ a ∈ dS :: wd :: lf :: ls, ∃ o, (a, o) ∈ led ∧ Mut o := by
  refine all3 ⟨oS, P.hS, P.so.mut⟩ ⟨oW, P.hW, P.dc.mut⟩ ?_ fun a ha => ?_
  · obtain ⟨i, k, R⟩ := P.fr; exact ⟨_, R.hl, Mut.list _ _⟩
  · obtain ⟨i, k, h⟩ := P.ws.lists a ha; exact ⟨_, h, Mut.list _ _⟩
theorem WsV.kp {led' : Led} {as : List Addr} (C : Cx w c A n m led s) (h : Kp as led led') (has : ∀ a ∈ as, ∃ o, (a, o) ∈ led ∧ Mut o) : ∀ {kvs : List (Int × Value)} {ws : List (Int × Rows)} {ls : List Addr}, WsV led kvs ws ls → (∀ l ∈ ls, l ∉ as) → WsV led' kvs ws ls
  | [], [], [], _, _ => trivial
  | _ :: _, _ :: _, _ :: _, g, hl => ⟨g.1, let ⟨r, e, R⟩ := g.2.1; ⟨r, e, R.kp C h has (hl _ (.head _))⟩, WsV.kp C h has g.2.2 fun l hm => hl l (.tail _ hm)⟩
theorem SlP.kp {led' : Led} {as : List Addr} (P : SlP prog w led x b mn cur dS oS r wd oW lf kvs ls free ws) (C : Cx w c A n m led s) (h : Kp as led led') (has : ∀ a ∈ as, ∃ o, (a, o) ∈ led ∧ Mut o) (hx : x ∉ as) (hd : ∀ a ∈ dS :: wd :: lf :: ls, a ∉ as) :
    SlP prog w led' x b mn cur dS oS r wd oW lf kvs ls free ws :=
  ⟨h _ P.hx hx, h _ P.hS (hd _ (.head _)), P.so, h _ P.hW (hd _ (.tail _ (.head _))), P.dc, P.fr.kp C h has (hd _ (.tail _ (.tail _ (.head _)))), WsV.kp C h has P.ws fun l hl => hd _ (.tail _ (.tail _ (.tail _ hl))), P.nd⟩
end
end Mine
end

section
open PySem PySem.W PySem.Calls PyProof.Rows PyProof.Rows.LCg
namespace Mine
section
variable {prog : Program} {w : World} {c : Cfg} {A : Around} {n : Nat} {m : Loc} {led : Led} {s : Shared} {E : Value → Shared → Prop}
theorem a_mul {a b : Int} {t u : Tok} {Q : Value → Shared → Prop} (C : Cx w c A n m led s) (hm : IntMulOk a b) (h : ∀ t s, Cx w c A n m led s → Q (.int (a * b) t) s) : wpAny (model prog w) A (binaryOp .Mult (.int a t) (.int b u)) Q E s := mul_int (h _ _ C.same) hm
theorem a_mod {a b : Int} {t u : Tok} {Q : Value → Shared → Prop} (C : Cx w c A n m led s) (hb : b ≠ 0) (h : ∀ t s, Cx w c A n m led s → Q (.int (a.fmod b) t) s) : wpAny (model prog w) A (binaryOp .Mod (.int a t) (.int b u)) Q E s := PyProof.Rows.mod_int hb (h _ _ C.same)
theorem b_any {l : Addr} {vs : List Value} {bs : List Bool} {k : Nat} {Q : Value → Shared → Prop} (C : Cx w c A n m led s) (hm : (l, lstO vs k) ∈ led) (hb : LSm.BoolsAre vs bs) (h : ∀ s, Cx w c A n m led s → Q (.bool (bs.any id)) s) :
    wpAny (model prog w) A (call (.builtin "any") [.ref l]) Q E s := LSm.any_bools C.F C.N C.hh (C.lst hm) hb fun h' tk F' N' => h _ (C.step F' N' C.nd)
theorem BoolsAre.snoc {vs : List Value} {bs : List Bool} (h : LSm.BoolsAre vs bs) (b : Bool) : LSm.BoolsAre (vs ++ [.bool b]) (bs ++ [b]) := by
  induction h with
  | nil => exact .cons b .nil
  | cons x _ ih => exact .cons x ih
theorem DcI.nodup {d : Addr} {o : Obj} {kvs : List (Int × Value)} (h : DcI prog w d o kvs) : (kvs.map (·.1)).Nodup := by
  obtain ⟨es, ep, x, hd, hk, hp, hn⟩ := h.is
  exact hn
theorem WsV.val {kvs : List (Int × Value)} {ws : List (Int × Rows)} {ls : List Addr} (h : WsV led kvs ws ls) (hn : (kvs.map (·.1)).Nodup) {i : Nat} {k : Int} {v : Value} (e : kvs[i]? = some (k, v)) :
    ∃ rows l r, ws[i]? = some (k, rows) ∧ l ∈ ls ∧ v = .ref r ∧ RgV led r l rows ∧ valueAt kvs k = some (.ref r) := by
  obtain ⟨rows, l, r, a, b, e1, R⟩ := h.get i k v e
  subst e1
  exact ⟨rows, l, r, a, b, rfl, R, valueAt_get hn e⟩
end
end Mine
end

section
open PySem PySem.W PySem.Calls PyProof.Rows PyProof.Rows.LCg
namespace Mine
noncomputable def wtI (R M : Int) : Int := if 2 * M ≥ R then R else (R + 2 * M).fdiv 2
section
variable {prog : Program} {w : World} {c : Cfg} {A : Around} {n : Nat} {m : Loc} {led : Led} {s : Shared} {E : Value → Shared → Prop}
variable {x : Addr} {b mn cur : Int} {dS r wd lf : Addr} {oS oW : Obj} {kvs : List (Int × Value)} {ls : List Addr} {free : Rows} {ws : List (Int × Rows)}
theorem sl_end {Q : Value → Shared → Prop} (C : Cx w c A (n + 1) m led s) (P : SlP prog w led x b mn cur dS oS r wd oW lf kvs ls free ws)
    (K : ∀ t s, Cx w c A (n + 1) m led s → Q (.int (b + mn) t) s) : wpAny (model prog w) A (call (.ref 211) [.ref x]) Q E s := by
  refine enter0 (binds := [(Str.ofString "self", .ref x)]) C (by k_is) (by k_is) (BindsTo.of_eq rfl) (locs rfl) (fun c A E s C Qr kQ => ?_) rfl rfl rfl (by decide)
  walk_at "xc"
  refine wpAny_Return_some ?_
  refine wpAny_BinOp ?_
  refine Attribute_any_ ?_
  refine nm_l C (by walk_at "lk") ?_ rfl rfl (by decide)
  refine at_begin C P.hx P.hS P.so fun t s C => ?_
  refine Attribute_any_ ?_
  refine nm_l C (by walk_at "lk") ?_ rfl rfl (by decide)
  refine at_many C P.hx P.hS P.so fun t s C => ?_
  with_reducible refine a_add C fun t s C => ?_
  walk_at "ar"
  try walk_at "rt"
  exact kQ _ _ _ _ C (fun C => K _ _ C)
theorem sl_covers {Q : Value → Shared → Prop} {a y : Int} {t1 t2 : Tok} (C : Cx w c A (n + 2) m led s) (P : SlP prog w led x b mn cur dS oS r wd oW lf kvs ls free ws)
    (K : ∀ v s, (v = true ↔ b ≤ a ∧ 0 ≤ y ∧ a + y ≤ b + mn) → Cx w c A (n + 2) m led s → Q (.bool v) s) : wpAny (model prog w) A (call (.ref 218) [.ref x, .int a t1, .int y t2]) Q E s := by
  refine enter0 (binds := [(Str.ofString "self", .ref x), (Str.ofString "sector", .int a t1), (Str.ofString "count", .int y t2)]) C (by k_is) (by k_is) (BindsTo.of_eq rfl) (locs rfl) (fun c A E s C Qr kQ => ?_) rfl rfl rfl (by decide)
  walk_at "xc"
  refine wpAny_Return_some ?_
  refine BoolOp_and ?_
  refine wpAny_Compare1 ?_
  refine Attribute_any_ ?_
  refine nm_l C (by walk_at "lk") ?_ rfl rfl (by decide)
  refine at_begin C P.hx P.hS P.so fun t s C => ?_
  refine nm_l C (by walk_at "lk") ?_ rfl rfl (by decide)
  refine le_int ?_
  refine wpAny_truthy_bool ?_
  refine ite_dec (fun g1 => ?_) (fun g1 => ?_)
  · refine BoolOp_and ?_
    refine wpAny_Compare1 ?_
    refine nm_l C (by walk_at "lk") ?_ rfl rfl (by decide)
    with_reducible refine k_int C fun t s C => ?_
    refine ge_int ?_
    refine wpAny_truthy_bool ?_
    refine ite_dec (fun g2 => ?_) (fun g2 => ?_)
    · refine BoolOp_one ?_
      refine opv fun _ _ => ?_
      refine wpAny_Compare1 ?_
      refine wpAny_BinOp ?_
      refine nm_l C (by walk_at "lk") ?_ rfl rfl (by decide)
      refine nm_l C (by walk_at "lk") ?_ rfl rfl (by decide)
      with_reducible refine a_add C fun t s C => ?_
      refine MethodCall_ ?_
      refine nm_l C (by walk_at "lk") ?_ rfl rfl (by decide)
      refine ms_end C P.hx P.hS P.so ?_
      refine cw_none C (by k_is) ?_
      refine sl_end C P fun t s C => ?_
      refine le_int ?_
      walk_at "op"
      try walk_at "rt"
      refine kQ _ _ _ _ C (fun C => K _ _ ?_ C)
      rw [decide_eq_true_eq]
      exact ⟨fun q => ⟨g1, g2, q⟩, fun q => q.2.2⟩
    · try walk_at "rt"
      refine kQ _ _ _ _ C (fun C => K _ _ ?_ C)
      rw [decide_eq_true_eq]
      exact ⟨fun q => absurd q g2, fun q => q.2.1⟩
  · try walk_at "rt"
    refine kQ _ _ _ _ C (fun C => K _ _ ?_ C)
    rw [decide_eq_true_eq]
    exact ⟨fun q => absurd q g1, fun q => q.1⟩
theorem sl_room {Q : Value → Shared → Prop} (C : Cx w c A (n + 2) m led s) (P : SlP prog w led x b mn cur dS oS r wd oW lf kvs ls free ws)
    (K : ∀ t s, Cx w c A (n + 2) m led s → Q (.int (lens free).sum t) s) : wpAny (model prog w) A (call (.ref 225) [.ref x]) Q E s := by
  obtain ⟨items, k, R⟩ := P.fr
  refine enter0 (binds := [(Str.ofString "self", .ref x)]) C (by k_is) (by k_is) (BindsTo.of_eq rfl) (locs rfl) (fun c A E s C Qr kQ => ?_) rfl rfl rfl (by decide)
  walk_at "xc"
  refine wpAny_Return_some ?_
  refine MethodCall_ ?_
  refine Attribute_any_ ?_
  refine nm_l C (by walk_at "lk") ?_ rfl rfl (by decide)
  refine at_free C P.hx P.hS P.so fun s C => ?_
  refine mr_total C R.hr ?_
  refine cw_none C (by k_is) ?_
  refine spec_total C R fun t s C => ?_
  walk_at "ar"
  try walk_at "rt"
  exact kQ _ _ _ _ C (fun C => K _ _ C)
theorem sl_weight {Q : Value → Shared → Prop} (C : Cx w c A (n + 2) m led s) (P : SlP prog w led x b mn cur dS oS r wd oW lf kvs ls free ws)
    (K : ∀ M v t s, IsMax (0 :: lens free) M → v = wtI (lens free).sum M → Cx w c A (n + 2) m led s → Q (.int v t) s) : wpAny (model prog w) A (call (.ref 237) [.ref x]) Q E s := by
  obtain ⟨items, k, R⟩ := P.fr
  refine enter0 (binds := [(Str.ofString "self", .ref x)]) C (by k_is) (by k_is) (BindsTo.of_eq rfl) (locs rfl) (fun c A E s C Qr kQ => ?_) rfl rfl rfl (by decide)
  walk_at "xc"
  refine Assign_Tuple_swapped (names := [Str.ofString "room", Str.ofString "longest"]) ?_
  refine opv fun _ _ => ?_
  refine Tuple_ ?_
  refine spliced_more ?_
  refine MethodCall_ ?_
  refine Attribute_any_ ?_
  refine nm_l C (by walk_at "lk") ?_ rfl rfl (by decide)
  refine at_free C P.hx P.hS P.so fun s C => ?_
  refine mr_total C R.hr ?_
  refine cw_none C (by k_is) ?_
  refine spec_total C R fun t s C => ?_
  refine spliced_more ?_
  refine MethodCall_ ?_
  refine Attribute_any_ ?_
  refine nm_l C (by walk_at "lk") ?_ rfl rfl (by decide)
  refine at_free C P.hx P.hS P.so fun s C => ?_
  refine mr_longest C R.hr ?_
  refine cw_none C (by k_is) ?_
  refine spec_longest C R fun M t s hM C => ?_
  refine spliced_none ?_
  refine mk_tup C (Nat.le_of_ble_eq_true rfl) fun D s C => ?_
  walk_at "op"
  refine unpack_tup C (.head _) rfl fun s C => ?_
  replace C := C.drop
  refine assignInOrder_cons ?_
  refine bd_l C (fun s C => ?_) rfl rfl
  refine assignInOrder_cons ?_
  refine bd_l C (fun s C => ?_) rfl rfl
  refine assignInOrder_nil ?_
  walk_at "xc"
  refine wpAny_Return_some ?_
  refine IfExp_ ?_
  refine wpAny_isTrue_Compare1 ?_
  refine wpAny_BinOp ?_
  with_reducible refine k_int C fun t s C => ?_
  refine nm_l C (by walk_at "lk") ?_ rfl rfl (by decide)
  with_reducible refine a_mul C (by mul_fits) fun t s C => ?_
  refine nm_l C (by walk_at "lk") ?_ rfl rfl (by decide)
  refine ge_int ?_
  refine wpAny_truthy_bool ?_
  refine ite_dec (fun g => ?_) (fun g => ?_)
  · refine nm_l C (by walk_at "lk") ?_ rfl rfl (by decide)
    try walk_at "rt"
    exact kQ _ _ _ _ C (fun C => K M _ _ _ hM (if_pos g).symm C)
  · refine opv fun _ _ => ?_
    refine wpAny_BinOp ?_
    refine wpAny_BinOp ?_
    refine nm_l C (by walk_at "lk") ?_ rfl rfl (by decide)
    refine wpAny_BinOp ?_
    with_reducible refine k_int C fun t s C => ?_
    refine nm_l C (by walk_at "lk") ?_ rfl rfl (by decide)
    with_reducible refine a_mul C (by mul_fits) fun t s C => ?_
    with_reducible refine a_add C fun t s C => ?_
    with_reducible refine k_int C fun t s C => ?_
    refine a_half C (by decide) (PyProof.noPylong_of_log2 (by decide +kernel)) fun t s C => ?_
    walk_at "op"
    try walk_at "rt"
    exact kQ _ _ _ _ C (fun C => K M _ _ _ hM (if_neg g).symm C)
end
end Mine
end

section
open PySem PySem.W PySem.Calls PyProof.Rows PyProof.Rows.LCg
namespace Mine
section
variable {prog : Program} {w : World} {c : Cfg} {A : Around} {n : Nat} {m : Loc} {led : Led} {s : Shared} {E : Value → Shared → Prop}
variable {x : Addr} {b mn cur : Int} {dS r wd lf : Addr} {oS oW : Obj} {kvs : List (Int × Value)} {ls : List Addr} {free : Rows} {ws : List (Int × Rows)}
theorem sl_waiting {Q : Value → Shared → Prop} (C : Cx w c A (n + 3) m led s) (P : SlP prog w led x b mn cur dS oS r wd oW lf kvs ls free ws) (hz : ws.length ≤ 1000)
    (K : ∀ t s, Cx w c A (n + 3) m led s → Q (.int (ws.map fun p => (lens p.2).sum).sum t) s) : wpAny (model prog w) A (call (.ref 230) [.ref x]) Q E s := by
  have nd := C.nd
  have hkl := P.ws.len.1
  refine enterC (binds := [(Str.ofString "self", .ref x)]) C (by k_is) (by k_is) (BindsTo.of_eq rfl) rfl (by decide) (fun c A E s cells Y hne C Qr kQ => ?_) rfl rfl rfl
  obtain ⟨oM, rfl, hM⟩ := CellsAre.one Y
  have hv_self : cellO oM (.ref x) := hM
  have P1 := P.mono (led' := (c.L + 1, oM) :: led) fun p hp => .tail _ hp
  walk_at "xc"
  refine wpAny_Return_some ?_
  refine Call_ ?_
  refine nm_bC C (by k_is) (by boot_fast) ?_ (by decide) rfl rfl (by decide)
  refine PyProof.Rows.callWith_builtin1 ?_
  refine spliced_more ?_
  refine comp_dict (c := c) (n := n + 2) (cl := [(Str.ofString "self", c.L + 1)]) rfl (by decide) rfl (by decide) (fun _ => rfl) ?_
  refine Attribute_any_ ?_
  refine nm_k C (by walk_at "mm") hv_self rfl rfl rfl (by decide) ?_
  refine at_waits C P1.hx P1.hS P1.so fun s C => ?_
  refine ⟨_, _, wd, oW, kvs, rfl, C, P1.hW, P.dc, by lia, fun i ys led' => led' = (c.L + 1, oM) :: led ∧ i ≤ ws.length ∧ IntsAre ys ((ws.take i).map fun p => (lens p.2).sum), ?_, ⟨rfl, Nat.zero_le _, .nil⟩, ?_, ?_⟩
  · rintro i ys led' ⟨rfl, hi, hy⟩
    refine ⟨P1.hW, ?_⟩
    have := IntsAre.length hy
    rw [List.length_map, List.length_take] at this
    lia
  · rintro i ys led' s k v t E' a D oC m2 I o j hk ⟨rfl, hi, hy⟩ hn h2 C
    obtain ⟨rows, l, r', hw, _, rfl, Rr, hval⟩ := P1.ws.val P.dc.nodup hk
    have P2 := P1.mono (led' := (a, oC) :: (D, lstO ys j) :: (I, o) :: (c.L + 1, oM) :: led) fun p hp => .tail _ (.tail _ (.tail _ hp))
    obtain ⟨items, k', R'⟩ := Rr.mono (led' := (a, oC) :: (D, lstO ys j) :: (I, o) :: (c.L + 1, oM) :: led) fun p hp => .tail _ (.tail _ (.tail _ hp))
    refine MethodCall_ ?_
    refine Subscript_ ?_
    refine Attribute_any_ ?_
    refine nm_k C (by walk_at "mm") hv_self rfl rfl rfl (by decide) ?_
    refine at_waits C P2.hx P2.hS P2.so fun s C => ?_
    refine nm_v C (by walk_at "mm") hn (by walk_at "lk") rfl rfl rfl (by decide) ?_
    refine d_item C P2.hW P.dc hval (fun s C => ?_) (by with_unfolding_all rfl)
    refine mr_total C R'.hr ?_
    refine cw_none C (by k_is) ?_
    refine spec_total C R' fun t s C => ?_
    obtain ⟨hlt, hwi⟩ := List.getElem?_eq_some_iff.mp hw
    refine ⟨_, _, _, hn, C, rfl, by lia, ?_⟩
    rw [take_snoc hlt, List.map_append, hwi]
    exact Mine.IntsAre.snoc hy _ _
  · rintro ys led' s D j ⟨rfl, hi, hy⟩ C
    refine spliced_none ?_
    rw [hkl, List.take_of_length_le (Nat.le_refl _)] at hy
    refine b_sum C (.head _) hy fun t s C => ?_
    try walk_at "rt"
    exact kQ _ _ _ _ C.drop.drop (fun C => K _ _ C)
theorem any_iff {α : Type} {l : List α} {bs : List Bool} {p : α → Prop} (hl : bs.length = l.length) (h : ∀ i (hi : i < l.length), bs[i]? = some true ↔ p l[i]) : bs.any id = true ↔ ∃ a ∈ l, p a := by
  rw [List.any_eq_true]
  constructor
  · rintro ⟨b, hb, e⟩
    obtain ⟨i, hi, rfl⟩ := List.getElem_of_mem hb
    have e' : bs[i] = true := e
    exact ⟨l[i]'(by lia), List.getElem_mem _, (h i (by omega)).mp (by rw [List.getElem?_eq_getElem hi, e'])⟩
  · rintro ⟨a, ha, q⟩
    obtain ⟨i, hi, rfl⟩ := List.getElem_of_mem ha
    have := (h i hi).mpr q
    exact ⟨true, List.mem_of_getElem? this, rfl⟩
inductive JG (ledC : Led) (ws : List (Int × Rows)) (a y : Int) (i : Nat) (ys : List Value) (led' : Led) : Prop
  | mk (e : led' = ledC) (hi : i ≤ ws.length) (bs : List Bool) (hy : LSm.BoolsAre ys bs) (hb : bs.length = i) (hbs : ∀ j (hj : j < ws.length), j < i → (bs[j]? = some true ↔ Meets (ws[j]).2 a y)) : JG ledC ws a y i ys led'
theorem sl_given {Q : Value → Shared → Prop} {a y : Int} {t1 t2 : Tok} (C : Cx w c A (n + 4) m led s) (P : SlP prog w led x b mn cur dS oS r wd oW lf kvs ls free ws) (hz : ws.length ≤ 1000) (ha : 0 ≤ a) (hy0 : 0 ≤ y)
    (K : ∀ v s, (v = true ↔ ¬ Meets free a y ∧ ∀ p ∈ ws, ¬ Meets p.2 a y) → Cx w c A (n + 4) m led s → Q (.bool v) s) : wpAny (model prog w) A (call (.ref 242) [.ref x, .int a t1, .int y t2]) Q E s := by
  have nd := C.nd
  have hkl := P.ws.len.1
  obtain ⟨fi, fk, RF⟩ := P.fr
  refine enterC (binds := [(Str.ofString "self", .ref x), (Str.ofString "sector", .int a t1), (Str.ofString "count", .int y t2)]) C (by k_is) (by k_is) (BindsTo.of_eq rfl) rfl (by decide) (fun c A E s cells Y hne C Qr kQ => ?_) rfl rfl rfl
  obtain ⟨o1, o2, o3, rfl, hM1, hM2, hM3⟩ := CellsAre.three Y
  have hv_count : cellO o1 (.int y t2) := hM1
  have hv_sector : cellO o2 (.int a t1) := hM2
  have hv_self : cellO o3 (.ref x) := hM3
  obtain ⟨ledC, hs1, hc1, hc2, hc3, C⟩ : ∃ ledC, (∀ p ∈ led, p ∈ ledC) ∧ (c.L + 1 + 1 + 1, o1) ∈ ledC ∧ (c.L + 1 + 1, o2) ∈ ledC ∧ (c.L + 1, o3) ∈ ledC ∧ Cx w c A _ _ ledC s :=
    ⟨(c.L + 1 + 1 + 1, o1) :: (c.L + 1 + 1, o2) :: (c.L + 1, o3) :: led, fun p hp => .tail _ (.tail _ (.tail _ hp)), .head _, .tail _ (.head _), .tail _ (.tail _ (.head _)), C⟩
  have P1 := P.mono hs1
  have RF1 := RF.mono hs1
  walk_at "xc"
  refine wpAny_If ?_
  refine opv fun _ _ => ?_
  refine isTrue_plain ?_
  refine opv fun _ _ => ?_
  refine MethodCall_ ?_
  refine Attribute_any_ ?_
  refine nm_k C (by walk_at "mm") hv_self rfl rfl rfl (by decide) ?_
  refine at_free C P1.hx P1.hS P1.so fun s C => ?_
  refine mr_some C RF1.hr ?_
  refine cw_more C (by k_is) ?_
  refine spliced_more ?_
  refine nm_k C (by walk_at "mm") hv_sector rfl rfl rfl (by decide) ?_
  refine spliced_more ?_
  refine nm_k C (by walk_at "mm") hv_count rfl rfl rfl (by decide) ?_
  refine spliced_none ?_
  refine ⟨C.Xs, ?_⟩
  refine spec_some C RF1 ha hy0 fun v s hv C => ?_
  walk_at "op"
  refine wpAny_truthy_bool ?_
  walk_at "op"
  cases v with
  | true =>
    refine ite_t rfl ?_
    walk_at "xc"
    refine wpAny_Return_some ?_
    refine Constant_bool ?_
    walk_at "ar"
    try walk_at "rt"
    exact kQ _ _ _ _ C (fun C => K _ _ ⟨fun q => (Bool.noConfusion q), fun q => absurd (hv.mp rfl) q.1⟩ (C.back hs1 nd))
  | false =>
    have hf : ¬ Meets free a y := fun q => Bool.noConfusion (hv.mpr q)
    refine ite_f rfl ?_
    walk_at "xn"
    walk_at "xc"
    refine wpAny_Return_some ?_
    refine UnaryOp_ ?_
    refine Call_ ?_
    refine nm_bC C (by k_is) (by boot_fast) ?_ (by decide) rfl rfl (by decide)
    refine PyProof.Rows.callWith_builtin1 ?_
    refine spliced_more ?_
    refine comp_dict (c := c) (n := n + 3) (cl := [(Str.ofString "self", c.L + 1), (Str.ofString "sector", c.L + 1 + 1), (Str.ofString "count", c.L + 1 + 1 + 1)]) rfl (by decide) rfl (by decide) (fun _ => rfl) ?_
    refine Attribute_any_ ?_
    refine nm_k C (by walk_at "mm") hv_self rfl rfl rfl (by decide) ?_
    refine at_waits C P1.hx P1.hS P1.so fun s C => ?_
    refine ⟨_, _, wd, oW, kvs, rfl, C, P1.hW, P.dc, by lia, JG ledC ws a y, ?_, ⟨rfl, Nat.zero_le _, [], .nil, rfl, fun _ _ q => absurd q (Nat.not_lt_zero _)⟩, ?_, ?_⟩
    · rintro i ys led' ⟨rfl, hi, bs, hy, hb, hbs⟩
      refine ⟨P1.hW, ?_⟩
      have := LSm.BoolsAre.length hy
      lia
    · rintro i ys led' s k v t E' a' D oC m2 I o j hk ⟨rfl, hi, bs, hy, hb, hbs⟩ hn h2 C
      obtain ⟨rows, l, r', hw, _, rfl, Rr, hval⟩ := P1.ws.val P.dc.nodup hk
      have P2 := P1.mono (led' := (a', oC) :: (D, lstO ys j) :: (I, o) :: led') fun p hp => .tail _ (.tail _ (.tail _ hp))
      obtain ⟨items, k', R'⟩ := Rr.mono (led' := (a', oC) :: (D, lstO ys j) :: (I, o) :: led') fun p hp => .tail _ (.tail _ (.tail _ hp))
      refine MethodCall_ ?_
      refine Subscript_ ?_
      refine Attribute_any_ ?_
      refine nm_k C (by walk_at "mm") hv_self rfl rfl rfl (by decide) ?_
      refine at_waits C P2.hx P2.hS P2.so fun s C => ?_
      refine nm_v C (by walk_at "mm") hn (by walk_at "lk") rfl rfl rfl (by decide) ?_
      refine d_item C P2.hW P.dc hval (fun s C => ?_) (by with_unfolding_all rfl)
      refine mr_some C R'.hr ?_
      refine cw_more C (by k_is) ?_
      refine spliced_more ?_
      refine nm_k C (by walk_at "mm") hv_sector rfl rfl rfl (by decide) ?_
      refine spliced_more ?_
      refine nm_k C (by walk_at "mm") hv_count rfl rfl rfl (by decide) ?_
      refine spliced_none ?_
      refine ⟨C.Xs, ?_⟩
      refine spec_some C R' ha hy0 fun v s hv C => ?_
      obtain ⟨hlt, hwi⟩ := List.getElem?_eq_some_iff.mp hw
      refine ⟨_, _, _, hn, C, rfl, by lia, bs ++ [v], BoolsAre.snoc hy v, by rw [List.length_append, hb]; rfl, fun j hj hji => ?_⟩
      by_cases e : j = i
      · subst e
        rw [List.getElem?_append_right (by lia), hb, Nat.sub_self, hwi]
        simp only [List.getElem?_cons_zero, Option.some.injEq]
        exact hv
      · rw [List.getElem?_append_left (by lia)]
        exact hbs j hj (by lia)
    · rintro ys led' s D j ⟨rfl, hi, bs, hy, hb, hbs⟩ C
      refine spliced_none ?_
      refine b_any C (.head _) hy fun s C => ?_
      refine not_of (wpAny_truthy_bool ?_)
      try walk_at "rt"
      refine kQ _ _ _ _ C (fun C => K _ _ ?_ (C.drop.back hs1 nd))
      have h1 := any_iff (l := ws) (bs := bs) (p := fun p => Meets p.2 a y) (by lia) (fun i hi => hbs i hi (by lia))
      constructor
      · intro q
        refine ⟨hf, fun p hp hm => ?_⟩
        rw [h1.mpr ⟨p, hp, hm⟩] at q
        exact Bool.noConfusion q
      · rintro ⟨_, q⟩
        cases e : bs.any id with
        | false => rfl
        | true => obtain ⟨p, hp, hm⟩ := h1.mp e; exact absurd hm (q p hp)
end
end Mine
end

section
open PySem PySem.W PySem.Calls PyProof.Rows PyProof.Rows.LCg
namespace Mine
theorem ints_get {vs : List Value} {ns : List Int} (h : IntsAre vs ns) {i : Nat} {v : Value} (e : vs[i]? = some v) : ∃ (hi : i < ns.length) (t : Tok), v = .int ns[i] t := by
  induction h generalizing i with
  | nil => simp at e
  | cons a t _ ih =>
    cases i with
    | zero => exact ⟨Nat.zero_lt_succ _, t, by simpa using e.symm⟩
    | succ i =>
      obtain ⟨hi, t, q⟩ := ih (by simpa using e)
      exact ⟨Nat.succ_lt_succ hi, t, q⟩
section
variable {prog : Program} {w : World} {c : Cfg} {A : Around} {n : Nat} {m : Loc} {led : Led} {s : Shared} {E : Value → Shared → Prop}
variable {x : Addr} {b mn cur : Int} {dS r wd lf : Addr} {oS oW : Obj} {kvs : List (Int × Value)} {ls : List Addr} {free : Rows} {ws : List (Int × Rows)}
theorem WsV.at {i : Nat} (h : WsV led kvs ws ls) (hn : (kvs.map (·.1)).Nodup) (hi : i < ws.length) :
    ∃ l r, (kvs.map (·.1))[i]? = some (ws[i]).1 ∧ RgV led r l (ws[i]).2 ∧ valueAt kvs (ws[i]).1 = some (.ref r) ∧ l ∈ ls := by
  have hl := h.len.1
  obtain ⟨rows, l, r, h1, h2, _, h4, h5⟩ := h.val hn (i := i) (k := (kvs[i]'(by lia)).1) (v := (kvs[i]'(by omega)).2) (List.getElem?_eq_getElem (by omega))
  rw [List.getElem?_eq_getElem hi, Option.some.injEq] at h1
  rw [h1]
  exact ⟨l, r, by rw [List.getElem?_map, List.getElem?_eq_getElem (by omega)]; rfl, h4, h5, h2⟩
inductive J12 (led : Led) (x S : Addr) (vs : List Value) (js : Nat) (b mn : Int) (free : Rows) (ws : List (Int × Rows)) (i : Nat) (m' : Loc) (led' : Led) : Prop
  | mk (m1 : m' (Str.ofString "self") = some (.ref x)) (hs : ∀ p ∈ led, p ∈ led') (hS : (S, lstO vs js) ∈ led') (r' l' : Addr) (rows' : Rows) (m2 : m' (Str.ofString "found") = some (.ref r')) (R : RgV led' r' l' rows') (f : ∀ p ∈ led, p.1 ≠ l') (hSl : S ≠ l') (hm : ∀ x, Mem rows' x ↔ (b ≤ x ∧ x < b + mn) ∧ ¬ Mem free x ∧ ∀ p ∈ ws.take i, ¬ Mem p.2 x) : J12 led x S vs js b mn free ws i m' led'
theorem sl_mapped {Q : Value → Shared → Prop} (C : Cx w c A (n + 6) m led s) (P : SlP prog w led x b mn cur dS oS r wd oW lf kvs ls free ws) (hz : ws.length < 64) (hsrt : (ws.map (·.1)).Pairwise (· ≤ ·)) (hb : 0 ≤ b) (hmn : 0 < mn) (hbm : b + mn ≤ 1000)
    (K : ∀ r' l' rows' led' s, (∀ p ∈ led, p ∈ led') → (∀ p ∈ led, p.1 ≠ l') → RgV led' r' l' rows' → (∀ x, Mem rows' x ↔ (b ≤ x ∧ x < b + mn) ∧ ¬ Mem free x ∧ ∀ p ∈ ws, ¬ Mem p.2 x) → Cx w c A (n + 6) m led' s → Q (.ref r') s) :
    wpAny (model prog w) A (call (.ref 249) [.ref x]) Q E s := by
  have hk := P.ws.keys
  have hkl := P.ws.len.1
  have hdn := P.dc.nodup
  refine enter0 (binds := [(Str.ofString "self", .ref x)]) C (by k_is) (by k_is) (BindsTo.of_eq rfl) (locs rfl) (fun c A E s C Qr kQ => ?_) rfl rfl rfl (by decide)
  walk_at "xc"
  refine wpAny_Assign_Name ?_
  refine opv fun _ _ => ?_
  refine MethodCall_ ?_
  refine opv fun _ _ => ?_
  refine Call_ ?_
  refine nm_g C (by k_is) ?_ rfl rfl (by decide)
  refine cw_more C (by k_is) ?_
  refine spliced_more ?_
  refine opv fun _ _ => ?_
  refine List_ ?_
  refine spliced_more ?_
  refine opv fun _ _ => ?_
  refine Tuple_ ?_
  refine spliced_more ?_
  refine Attribute_any_ ?_
  refine nm_l C (by walk_at "lk") ?_ rfl rfl (by decide)
  refine at_begin C P.hx P.hS P.so fun t s C => ?_
  refine spliced_more ?_
  refine MethodCall_ ?_
  refine nm_l C (by walk_at "lk") ?_ rfl rfl (by decide)
  refine ms_end C P.hx P.hS P.so ?_
  refine cw_none C (by k_is) ?_
  refine sl_end C P fun t s C => ?_
  refine spliced_none ?_
  refine mk_tup C (Nat.le_of_ble_eq_true rfl) fun T s C => ?_
  walk_at "op"
  refine spliced_none ?_
  refine mk_list C (Nat.le_of_ble_eq_true rfl) fun D s C => ?_
  walk_at "op"
  refine spliced_none ?_
  refine ⟨C.Xs, ?_⟩
  refine new_rg1 C (.head _) (.tail _ (.head _)) hb (by lia) hbm fun r0 l0 rows0 led0 s k0 f0 R0 hm0 C => ?_
  walk_at "op"
  obtain ⟨i0, j0, R0'⟩ := id R0
  have k00 : ∀ p ∈ led, p ∈ led0 := fun p hp => k0 p (.tail _ (.tail _ hp))
  have P0 := P.mono k00
  refine mr_without C R0'.hr ?_
  refine cw_more C (by k_is) ?_
  refine spliced_more ?_
  refine Attribute_any_ ?_
  refine nm_l C (by walk_at "lk") ?_ rfl rfl (by decide)
  refine at_free C P0.hx P0.hS P0.so fun s C => ?_
  refine spliced_none ?_
  refine ⟨C.Xs, ?_⟩
  refine without_v C R0 P0.fr fun r1 l1 rows1 led1 s k1 f1 R1 hm1 C => ?_
  walk_at "op"
  refine st_l C (fun s C => ?_) rfl rfl
  have k11 : ∀ p ∈ led, p ∈ led1 := fun p hp => k1 p (k00 p hp)
  have P1 := P.mono k11
  walk_at "xc"
  refine wpAny_For ?_
  refine Call_ ?_
  refine nm_b C (by k_is) (by boot_fast) ?_ (by decide) rfl rfl (by decide)
  refine PyProof.Rows.callWith_builtin1 ?_
  refine spliced_more ?_
  refine Attribute_any_ ?_
  refine nm_l C (by walk_at "lk") ?_ rfl rfl (by decide)
  refine at_waits C P1.hx P1.hS P1.so fun s C => ?_
  refine spliced_none ?_
  refine d_sorted C P1.hW P1.dc (by lia) (by rw [hk]; exact hsrt) fun S vs js s hvs C => ?_
  have hSne : S ≠ l1 := by obtain ⟨_, _, R⟩ := id R1; exact fun q => C.ne _ R.hl q.symm
  refine iter_list C (.head _) fun I o s hI C => ?_
  have hvl := IntsAre.length hvs
  rw [List.length_map] at hvl
  refine for_list C hI (J12 led x S vs js b mn free ws)
    (fun i m' led' h => by obtain ⟨_, _, h⟩ := h; exact h) ⟨by walk_at "lk", fun p hp => .tail _ (k11 p hp), .head _, r1, l1, rows1, by walk_at "lk", R1.mono fun p hp => .tail _ hp, fun p hp => f1 p (k00 p hp), hSne, fun x => ?_⟩ (fun v hv => lets_name) ?_ ?_
  · rw [hm1 x, hm0 x]; simp
  · rintro i m' led' s v E' o hvi ⟨m1, hs, hS, r', l', rows', m2, R', f', hSl, hm⟩ hIo C T kN kR
    obtain ⟨hi', t, rfl⟩ := ints_get hvs hvi
    have hi : i < ws.length := by rw [List.length_map, hkl] at hi'; exact hi'
    obtain ⟨lw, rw', hw1, Rw, hval, _⟩ := (P.ws.mono hs).at hdn hi
    rw [List.getElem?_eq_getElem hi', Option.some.injEq] at hw1
    rw [hw1]
    have hIne := C.ne
    have P2 := (P.mono hs).mono (led' := (I, o) :: led') fun p hp => .tail _ hp
    have R2 := R'.mono (led' := (I, o) :: led') fun p hp => .tail _ hp
    have Rw2 := Rw.mono (led' := (I, o) :: led') fun p hp => .tail _ hp
    obtain ⟨i2, j2, R2'⟩ := id R2
    refine wpAny_assign_Name (st_l C (fun s C => ?_) rfl rfl)
    walk_at "xc"
    refine wpAny_Assign_Name ?_
    refine opv fun _ _ => ?_
    refine MethodCall_ ?_
    refine nm_l C (by walk_at "lk") ?_ rfl rfl (by decide)
    refine mr_without C R2'.hr ?_
    refine cw_more C (by k_is) ?_
    refine spliced_more ?_
    refine Subscript_ ?_
    refine Attribute_any_ ?_
    refine nm_l C (by walk_at "lk") ?_ rfl rfl (by decide)
    refine at_waits C P2.hx P2.hS P2.so fun s C => ?_
    refine nm_l C (by walk_at "lk") ?_ rfl rfl (by decide)
    refine d_item C P2.hW P2.dc hval (fun s C => ?_) (by with_unfolding_all rfl)
    refine spliced_none ?_
    refine ⟨C.Xs, ?_⟩
    refine without_v C R2 Rw2 fun r3 l3 rows3 led3 s k3 f3 R3 hm3 C => ?_
    walk_at "op"
    refine st_l C (fun s C => ?_) rfl rfl
    walk_at "xn"
    obtain ⟨led4, C4, kp4, s4⟩ := C.front (k3 (I, o) (.head _))
    have k34 : ∀ p ∈ led', p ∈ led4 := fun p hp => kp4 p (k3 p (.tail _ hp)) (by rw [List.mem_singleton]; exact hIne p hp)
    refine kN _ _ led4 C4 ⟨by walk_at "lk", fun p hp => k34 p (hs p hp), k34 _ hS, r3, l3, rows3, by walk_at "lk", R3.kp C kp4 (fun a ha => ?_) ?_, fun p hp => f3 p (.tail _ (hs p hp)), f3 _ (.tail _ hS), fun x => ?_⟩
    · rw [List.mem_singleton.mp ha]
      exact ⟨o, k3 (I, o) (.head _), hIo.mut⟩
    · rw [List.mem_singleton]; exact fun q => f3 (I, o) (.head _) q.symm
    · rw [hm3 x, hm x, take_snoc hi]
      constructor
      · rintro ⟨⟨a1, a2, a3⟩, a4⟩
        refine ⟨a1, a2, fun p hp => ?_⟩
        rcases List.mem_append.mp hp with hp | hp
        · exact a3 p hp
        · rw [List.mem_singleton.mp hp]; exact a4
      · rintro ⟨a1, a2, a3⟩
        exact ⟨⟨a1, a2, fun p hp => a3 p (List.mem_append_left _ hp)⟩, a3 _ (List.mem_append_right _ (.head _))⟩
  · rintro m' led' s E' ⟨m1, hs, hS, r', l', rows', m2, R', f', hSl, hm⟩ C
    walk_at "xn"
    walk_at "xc"
    refine wpAny_Return_some ?_
    refine nm_l C (by walk_at "lk") ?_ rfl rfl (by decide)
    walk_at "ar"
    try walk_at "rt"
    exact kQ _ _ _ _ C (fun C => K r' l' rows' led' _ hs f' R' (fun x => by rw [hm x, List.take_of_length_le (by lia)]) C)
end
end Mine
end

section
open PySem PySem.W PySem.Calls PyProof.Rows PyProof.Rows.LCg
namespace Mine
section
variable {prog : Program} {w : World} {c : Cfg} {A : Around} {n : Nat} {m : Loc} {led : Led} {s : Shared} {E : Value → Shared → Prop}
variable {x : Addr} {b mn cur : Int} {dS r wd lf : Addr} {oS oW : Obj} {kvs : List (Int × Value)} {ls : List Addr} {free : Rows} {ws : List (Int × Rows)}
theorem st_cursor {cur' : Int} {tk : Tok} {Q : Unit → Shared → Prop} (C : Cx w c A n m led s) (hx : (x, instObj 287 dS) ∈ led) (hS : (dS, oS) ∈ led) (so : SlObj oS b mn r wd cur)
    (K : ∀ oS' led' s, SlObj oS' b mn r wd cur' → Kp [dS] led led' → (dS, oS') ∈ led' → (x, instObj 287 dS) ∈ led' → Cx w c A n m led' s → Q () s) : wpAny (model prog w) A (setAttr (.ref x) (Str.ofString "cursor") (.int cur' tk)) Q E s := by
  obtain ⟨h1, h2, h3, h4, h5, t1, t2, t3, t4, t5, k1, k2, k3, j, rfl⟩ := so
  have hne : x ≠ dS := C.diff hx hS (by simp [dictOf])
  obtain ⟨led0, C, kp, _⟩ := C.front hS
  have hx0 := kp _ hx (by rw [List.mem_singleton]; exact hne)
  refine st_attr C hx0 (by k_is) (by k_is) (by k_is) (by k_is) (by rfl) (fun _ => Nat.le_of_ble_eq_true rfl) fun hk tk' s C => ?_
  have e2 : putL (Str.ofString "cursor") hk (.str (Str.ofString "cursor") tk') (.int cur' tk) [⟨h1, .str (Str.ofString "begin") t1, .int b k1⟩, ⟨h2, .str (Str.ofString "many") t2, .int mn k2⟩, ⟨h3, .str (Str.ofString "free") t3, .ref r⟩, ⟨h4, .str (Str.ofString "waits") t4, .ref wd⟩, ⟨h5, .str (Str.ofString "cursor") t5, .int cur k3⟩] = [⟨h1, .str (Str.ofString "begin") t1, .int b k1⟩, ⟨h2, .str (Str.ofString "many") t2, .int mn k2⟩, ⟨h3, .str (Str.ofString "free") t3, .ref r⟩, ⟨h4, .str (Str.ofString "waits") t4, .ref wd⟩, ⟨h5, .str (Str.ofString "cursor") t5, .int cur' tk⟩] := by rfl
  rw [e2] at C
  exact K _ _ _ ⟨h1, h2, h3, h4, h5, t1, t2, t3, t4, t5, k1, k2, tk, _, rfl⟩ (fun p hp hn => .tail _ (kp p hp hn)) (.head _) (.tail _ hx0) C
theorem st_free {r' : Addr} {Q : Unit → Shared → Prop} (C : Cx w c A n m led s) (hx : (x, instObj 287 dS) ∈ led) (hS : (dS, oS) ∈ led) (so : SlObj oS b mn r wd cur)
    (K : ∀ oS' led' s, SlObj oS' b mn r' wd cur → Kp [dS] led led' → (dS, oS') ∈ led' → (x, instObj 287 dS) ∈ led' → Cx w c A n m led' s → Q () s) : wpAny (model prog w) A (setAttr (.ref x) (Str.ofString "free") (.ref r')) Q E s := by
  obtain ⟨h1, h2, h3, h4, h5, t1, t2, t3, t4, t5, k1, k2, k3, j, rfl⟩ := so
  have hne : x ≠ dS := C.diff hx hS (by simp [dictOf])
  obtain ⟨led0, C, kp, _⟩ := C.front hS
  have hx0 := kp _ hx (by rw [List.mem_singleton]; exact hne)
  refine st_attr C hx0 (by k_is) (by k_is) (by k_is) (by k_is) (by rfl) (fun _ => Nat.le_of_ble_eq_true rfl) fun hk tk' s C => ?_
  have e2 : putL (Str.ofString "free") hk (.str (Str.ofString "free") tk') (.ref r') [⟨h1, .str (Str.ofString "begin") t1, .int b k1⟩, ⟨h2, .str (Str.ofString "many") t2, .int mn k2⟩, ⟨h3, .str (Str.ofString "free") t3, .ref r⟩, ⟨h4, .str (Str.ofString "waits") t4, .ref wd⟩, ⟨h5, .str (Str.ofString "cursor") t5, .int cur k3⟩] = [⟨h1, .str (Str.ofString "begin") t1, .int b k1⟩, ⟨h2, .str (Str.ofString "many") t2, .int mn k2⟩, ⟨h3, .str (Str.ofString "free") t3, .ref r'⟩, ⟨h4, .str (Str.ofString "waits") t4, .ref wd⟩, ⟨h5, .str (Str.ofString "cursor") t5, .int cur k3⟩] := by rfl
  rw [e2] at C
  exact K _ _ _ ⟨h1, h2, h3, h4, h5, t1, t2, t3, t4, t5, k1, k2, k3, _, rfl⟩ (fun p hp hn => .tail _ (kp p hp hn)) (.head _) (.tail _ hx0) C
theorem st_waits {wd' : Addr} {Q : Unit → Shared → Prop} (C : Cx w c A n m led s) (hx : (x, instObj 287 dS) ∈ led) (hS : (dS, oS) ∈ led) (so : SlObj oS b mn r wd cur)
    (K : ∀ oS' led' s, SlObj oS' b mn r wd' cur → Kp [dS] led led' → (dS, oS') ∈ led' → (x, instObj 287 dS) ∈ led' → Cx w c A n m led' s → Q () s) : wpAny (model prog w) A (setAttr (.ref x) (Str.ofString "waits") (.ref wd')) Q E s := by
  obtain ⟨h1, h2, h3, h4, h5, t1, t2, t3, t4, t5, k1, k2, k3, j, rfl⟩ := so
  have hne : x ≠ dS := C.diff hx hS (by simp [dictOf])
  obtain ⟨led0, C, kp, _⟩ := C.front hS
  have hx0 := kp _ hx (by rw [List.mem_singleton]; exact hne)
  refine st_attr C hx0 (by k_is) (by k_is) (by k_is) (by k_is) (by rfl) (fun _ => Nat.le_of_ble_eq_true rfl) fun hk tk' s C => ?_
  have e2 : putL (Str.ofString "waits") hk (.str (Str.ofString "waits") tk') (.ref wd') [⟨h1, .str (Str.ofString "begin") t1, .int b k1⟩, ⟨h2, .str (Str.ofString "many") t2, .int mn k2⟩, ⟨h3, .str (Str.ofString "free") t3, .ref r⟩, ⟨h4, .str (Str.ofString "waits") t4, .ref wd⟩, ⟨h5, .str (Str.ofString "cursor") t5, .int cur k3⟩] = [⟨h1, .str (Str.ofString "begin") t1, .int b k1⟩, ⟨h2, .str (Str.ofString "many") t2, .int mn k2⟩, ⟨h3, .str (Str.ofString "free") t3, .ref r⟩, ⟨h4, .str (Str.ofString "waits") t4, .ref wd'⟩, ⟨h5, .str (Str.ofString "cursor") t5, .int cur k3⟩] := by rfl
  rw [e2] at C
  exact K _ _ _ ⟨h1, h2, h3, h4, h5, t1, t2, t3, t4, t5, k1, k2, k3, _, rfl⟩ (fun p hp hn => .tail _ (kp p hp hn)) (.head _) (.tail _ hx0) C
inductive SlOut (prog : Program) (w : World) (led led' : Led) (x : Addr) (b mn cur : Int) (own : List Addr) (free : Rows) (ws : List (Int × Rows)) : Prop
  | mk (kp : Kp own led led') (own' : List Addr) (V : SlV prog w led' x b mn cur own' free ws) (h : ∀ a ∈ own', a ∈ own ∨ ∀ p ∈ led, p.1 ≠ a) : SlOut prog w led led' x b mn cur own free ws
theorem SlObj.muts {o : Obj} (h : SlObj o b mn r wd cur) : ∀ a ∈ [dS], ∀ led : Led, (dS, o) ∈ led → ∃ o, (a, o) ∈ led ∧ Mut o := by
  intro a ha led hm
  rw [List.mem_singleton.mp ha]
  exact ⟨o, hm, h.mut⟩
end
end Mine
end

section
open PySem PySem.W PySem.Calls PyProof.Rows PyProof.Rows.LCg
namespace Mine
noncomputable def PlaceI (free : Rows) (cur y : Int) (v : Value) : Prop := (∃ p t, ffit free y cur = some p ∧ v = .int p t) ∨ (ffit free y cur = none ∧ BestI free y v)
theorem ffit_some {rows : Rows} {y least p : Int} (h : ffit rows y least = some p) (hg : Rg rows) : Covers rows p y ∧ 0 ≤ p := by
  unfold ffit at h
  rw [Option.map_eq_some_iff] at h
  obtain ⟨r, hr, rfl⟩ := h
  have hm := List.mem_of_find?_eq_some hr
  have hf := List.find?_some hr
  simp only [fitsAt, decide_eq_true_eq] at hf
  have hb := hg.bd r hm
  exact ⟨fun x h1 h2 => ⟨r, hm, by lia, by lia⟩, by omega⟩
theorem best_some {rows : Rows} {y : Int} {z : Int × Int} (h : z ∈ fitK rows y) (hg : Rg rows) : Covers rows z.2 y ∧ 0 ≤ z.2 := by
  unfold fitK at h
  obtain ⟨r, hr, rfl⟩ := List.mem_map.mp h
  obtain ⟨hm, hf⟩ := List.mem_filter.mp hr
  simp only [decide_eq_true_eq] at hf
  have hb := hg.bd r hm
  exact ⟨fun x h1 h2 => ⟨r, hm, h1, by show x < r.2; have : x < r.1 + y := h2; lia⟩, hb.1⟩
theorem place_int {rows : Rows} {cur y p : Int} {t : Tok} (h : PlaceI rows cur y (.int p t)) (hg : Rg rows) : Covers rows p y ∧ 0 ≤ p := by
  rcases h with ⟨p', t', h, e⟩ | ⟨_, ⟨_, e⟩ | ⟨z, t', e, hz, _⟩⟩
  · cases e; exact ffit_some h hg
  · cases e
  · cases e; exact best_some hz hg
section
variable {prog : Program} {w : World} {c : Cfg} {A : Around} {n : Nat} {m : Loc} {led : Led} {s : Shared} {E : Value → Shared → Prop}
variable {x : Addr} {b mn cur : Int} {dS r wd lf : Addr} {oS oW : Obj} {kvs : List (Int × Value)} {ls : List Addr} {free : Rows} {ws : List (Int × Rows)}
theorem SlP.nf (P : SlP prog w led x b mn cur dS oS r wd oW lf kvs ls free ws) : dS ≠ wd ∧ dS ≠ lf ∧ wd ≠ lf ∧ (∀ l ∈ ls, l ≠ dS ∧ l ≠ wd ∧ l ≠ lf) := by
  have h := P.nd
  simp only [List.nodup_cons, List.mem_cons, not_or] at h
  obtain ⟨⟨h1, h2, h3⟩, ⟨h4, h5⟩, h6, _⟩ := h
  exact ⟨h1, h2, h4, fun l hl => ⟨fun e => h3 (e ▸ hl), fun e => h5 (e ▸ hl), fun e => h6 (e ▸ hl)⟩⟩
theorem SlP.cursored {cur' : Int} {oS' : Obj} {led' : Led} (P : SlP prog w led x b mn cur dS oS r wd oW lf kvs ls free ws) (C : Cx w c A n m led s) (kp : Kp [dS] led led') (hS : (dS, oS') ∈ led') (so : SlObj oS' b mn r wd cur') (hx : (x, instObj 287 dS) ∈ led') :
    SlP prog w led' x b mn cur' dS oS' r wd oW lf kvs ls free ws := by
  obtain ⟨n1, n2, n3, n4⟩ := P.nf
  have hm := fun a ha => P.so.muts (dS := dS) a ha led P.hS
  exact ⟨hx, hS, so, kp _ P.hW (by rw [List.mem_singleton]; exact n1.symm), P.dc, P.fr.kp C kp hm (by rw [List.mem_singleton]; exact n2.symm), P.ws.kp C kp hm (fun l hl => by rw [List.mem_singleton]; exact (n4 l hl).1), P.nd⟩
theorem SlP.freed {free' : Rows} {led' : Led} (P : SlP prog w led x b mn cur dS oS r wd oW lf kvs ls free ws) (C : Cx w c A n m led s) (kp : Kp [lf] led led') (R : RgV led' r lf free') :
    SlP prog w led' x b mn cur dS oS r wd oW lf kvs ls free' ws := by
  obtain ⟨n1, n2, n3, n4⟩ := P.nf
  obtain ⟨i, k, RF⟩ := id P.fr
  have hxl : x ≠ lf := C.diff P.hx RF.hl (by simp [PySem.W.listOf])
  have hm : ∀ a ∈ [lf], ∃ o, (a, o) ∈ led ∧ Mut o := fun a ha => by rw [List.mem_singleton.mp ha]; exact ⟨_, RF.hl, Mut.list _ _⟩
  exact ⟨kp _ P.hx (by rw [List.mem_singleton]; exact hxl), kp _ P.hS (by rw [List.mem_singleton]; exact n2), P.so, kp _ P.hW (by rw [List.mem_singleton]; exact n3), P.dc, R, P.ws.kp C kp hm (fun l hl => by rw [List.mem_singleton]; exact (n4 l hl).2.2), P.nd⟩
theorem SlP.out {cur' : Int} {oS' : Obj} {free' : Rows} {led' : Led} (P' : SlP prog w led' x b mn cur' dS oS' r wd oW lf kvs ls free' ws) (kp : Kp (dS :: wd :: lf :: ls) led led') : SlOut prog w led led' x b mn cur' (dS :: wd :: lf :: ls) free' ws :=
  ⟨kp, _, ⟨_, _, _, _, _, _, _, _, P', rfl⟩, fun a ha => .inl ha⟩
theorem sl_claim {Q : Value → Shared → Prop} {a y : Int} {t1 t2 : Tok} (C : Cx w c A (n + 6) m led s) (P : SlP prog w led x b mn cur dS oS r wd oW lf kvs ls free ws) (ha : 0 ≤ a) (hy : 0 < y)
    (K : Covers free a y → ∀ free' led' s, SlOut prog w led led' x b mn cur (dS :: wd :: lf :: ls) free' ws → (∀ x, Mem free' x ↔ Mem free x ∧ ¬ (a ≤ x ∧ x < a + y)) → Cx w c A (n + 6) m led' s → Q .none s)
    (KE : ¬ Covers free a y → ∀ e s, XP c m led e s → E (.ref e) s) :
    wpAny (model prog w) A (call (.ref 263) [.ref x, .int a t1, .int y t2]) Q E s := by
  obtain ⟨i, k, RF⟩ := id P.fr
  by_cases hc : Covers free a y
  · refine enter0 (binds := [(Str.ofString "self", .ref x), (Str.ofString "sector", .int a t1), (Str.ofString "count", .int y t2)]) C (by k_is) (by k_is) (BindsTo.of_eq rfl) (locs rfl) (fun c A E s C Qr kQ => ?_) rfl rfl rfl (by decide)
    walk_at "xc"
    refine wpAny_Expr_any ?_
    refine opv fun _ _ => ?_
    refine MethodCall_ ?_
    refine Attribute_any_ ?_
    refine nm_l C (by walk_at "lk") ?_ rfl rfl (by decide)
    refine at_free C P.hx P.hS P.so fun s C => ?_
    refine mr_take C RF.hr ?_
    refine cw_more C (by k_is) ?_
    refine spliced_more ?_
    refine nm_l C (by walk_at "lk") ?_ rfl rfl (by decide)
    refine spliced_more ?_
    refine nm_l C (by walk_at "lk") ?_ rfl rfl (by decide)
    refine spliced_none ?_
    refine ⟨C.Xs, ?_⟩
    refine take_v C P.fr ha hy (fun _ led' rows' s kp R' hm' C' => ?_) (fun hn => absurd hc hn)
    walk_at "op"
    walk_at "xn"
    try walk_at "rt"
    exact kQ _ _ _ _ C' (fun C'' => K hc _ _ _ ((P.freed C kp R').out fun p hp hn => kp p hp (fun q => hn (.tail _ (.tail _ (by rw [List.mem_singleton.mp q]; exact .head _))))) hm' C'')
  · refine enterX (binds := [(Str.ofString "self", .ref x), (Str.ofString "sector", .int a t1), (Str.ofString "count", .int y t2)]) C (by k_is) (by k_is) (BindsTo.of_eq rfl) (locs rfl) (fun c A s C Qr Er kQ kE => ?_) (KE hc) rfl rfl rfl (by decide)
    walk_at "xc"
    refine wpAny_Expr_any ?_
    refine opv fun _ _ => ?_
    refine MethodCall_ ?_
    refine Attribute_any_ ?_
    refine nm_l C (by walk_at "lk") ?_ rfl rfl (by decide)
    refine at_free C P.hx P.hS P.so fun s C => ?_
    refine mr_take C RF.hr ?_
    refine cw_more C (by k_is) ?_
    refine spliced_more ?_
    refine nm_l C (by walk_at "lk") ?_ rfl rfl (by decide)
    refine spliced_more ?_
    refine nm_l C (by walk_at "lk") ?_ rfl rfl (by decide)
    refine spliced_none ?_
    refine ⟨C.Xs, ?_⟩
    refine take_v C P.fr ha hy (fun q => absurd q hc) (fun _ e s X => kE _ _ (.inr ⟨e, _, rfl, X⟩))
    walk_at "op"
theorem sl_take_x {Q : Value → Shared → Prop} {y : Int} {t2 : Tok} (C : Cx w c A (n + 4) m led s) (P : SlP prog w led x b mn cur dS oS r wd oW lf kvs ls free ws) (hy : y < 1)
    (KE : ∀ e s, XP c m led e s → E (.ref e) s) : wpAny (model prog w) A (call (.ref 256) [.ref x, .int y t2]) Q E s := by
  refine enterX (binds := [(Str.ofString "self", .ref x), (Str.ofString "count", .int y t2)]) C (by k_is) (by k_is) (BindsTo.of_eq rfl) (locs rfl) (fun c A s C Qr Er kQ kE => ?_) KE rfl rfl rfl (by decide)
  walk_at "xc"
  refine wpAny_If ?_
  refine wpAny_isTrue_Compare1 ?_
  refine nm_l C (by walk_at "lk") ?_ rfl rfl (by decide)
  with_reducible refine k_int C fun t s C => ?_
  refine lt_int ?_
  refine wpAny_truthy_bool ?_
  refine ite_t (decide_eq_true hy) ?_
  walk_at "xc"
  refine x_raise C (fun e oe s ho C => ?_) rfl rfl
  exact kE _ _ (.inl ⟨e, oe, _, _, rfl, ho, C⟩)
theorem sl_take {Q : Value → Shared → Prop} {y : Int} {t2 : Tok} (C : Cx w c A (n + 6) m led s) (P : SlP prog w led x b mn cur dS oS r wd oW lf kvs ls free ws) (hy : 0 < y)
    (K0 : ∀ s, PlaceI free cur y .none → Cx w c A (n + 6) m led s → Q .none s)
    (K1 : ∀ p t free' led' s, PlaceI free cur y (.int p t) → SlOut prog w led led' x b mn (p + y) (dS :: wd :: lf :: ls) free' ws → (∀ x, Mem free' x ↔ Mem free x ∧ ¬ (p ≤ x ∧ x < p + y)) → Cx w c A (n + 6) m led' s → Q (.int p t) s) :
    wpAny (model prog w) A (call (.ref 256) [.ref x, .int y t2]) Q E s := by
  obtain ⟨i, k, RF⟩ := id P.fr
  refine enter0 (binds := [(Str.ofString "self", .ref x), (Str.ofString "count", .int y t2)]) C (by k_is) (by k_is) (BindsTo.of_eq rfl) (locs rfl) (fun c A E s C Qr kQ => ?_) rfl rfl rfl (by decide)
  walk_at "xc"
  refine wpAny_If ?_
  refine wpAny_isTrue_Compare1 ?_
  refine nm_l C (by walk_at "lk") ?_ rfl rfl (by decide)
  with_reducible refine k_int C fun t s C => ?_
  refine lt_int ?_
  refine wpAny_truthy_bool ?_
  refine ite_f (decide_eq_false (by lia)) ?_
  walk_at "xn"
  walk_at "xc"
  refine wpAny_Assign_Name ?_
  refine opv fun _ _ => ?_
  refine MethodCall_ ?_
  refine Attribute_any_ ?_
  refine nm_l C (by walk_at "lk") ?_ rfl rfl (by decide)
  refine at_free C P.hx P.hS P.so fun s C => ?_
  refine mr_first_fit C RF.hr ?_
  refine cw_more C (by k_is) ?_
  refine spliced_more ?_
  refine nm_l C (by walk_at "lk") ?_ rfl rfl (by decide)
  refine spliced_more ?_
  refine Attribute_any_ ?_
  refine nm_l C (by walk_at "lk") ?_ rfl rfl (by decide)
  refine at_cursor C P.hx P.hS P.so fun t s C => ?_
  refine spliced_none ?_
  refine ⟨C.Xs, ?_⟩
  refine spec_ffit C RF hy fun v s hv C => ?_
  walk_at "op"
  refine st_l C (fun s C => ?_) rfl rfl
  walk_at "xc"
  refine if_join (fun s => ∃ m v, Cx w c A (n + 5) m led s ∧ m (Str.ofString "self") = some (.ref x) ∧ (∃ t, m (Str.ofString "count") = some (.int y t)) ∧ m (Str.ofString "found") = some v ∧ PlaceI free cur y v) ?_ ?_
  · intro Qj kJ
    cases hf : ffit free y cur with
    | some p =>
      rw [hf] at hv
      have hvi : ∃ t, v = .int p t := by
        cases v <;> simp only [OptI] at hv
        subst hv; exact ⟨_, rfl⟩
      obtain ⟨tv, rfl⟩ := hvi
      refine wpAny_isTrue_Compare1 ?_
      refine nm_l C (by walk_at "lk") ?_ rfl rfl (by decide)
      refine Constant_none ?_
      refine PyProof.Rows.is_int_none ?_
      refine wpAny_truthy_bool ?_
      refine ite_f rfl ?_
      walk_at "xn"
      exact kJ _ ⟨_, _, C, by walk_at "lk", ⟨_, by walk_at "lk"⟩, by walk_at "lk", .inl ⟨p, tv, hf, rfl⟩⟩
    | none =>
      rw [hf] at hv
      have hvi : v = .none := by
        cases v <;> simp only [OptI] at hv
        rfl
      subst hvi
      refine wpAny_isTrue_Compare1 ?_
      refine nm_l C (by walk_at "lk") ?_ rfl rfl (by decide)
      refine Constant_none ?_
      refine is_none_gen ?_
      refine wpAny_truthy_bool ?_
      refine ite_t rfl ?_
      walk_at "xc"
      refine wpAny_Assign_Name ?_
      refine MethodCall_ ?_
      refine Attribute_any_ ?_
      refine nm_l C (by walk_at "lk") ?_ rfl rfl (by decide)
      refine at_free C P.hx P.hS P.so fun s C => ?_
      refine mr_best_fit C RF.hr ?_
      refine cw_more C (by k_is) ?_
      refine spliced_more ?_
      refine nm_l C (by walk_at "lk") ?_ rfl rfl (by decide)
      refine spliced_none ?_
      refine ⟨C.Xs, ?_⟩
      refine best_v C P.fr fun v s hb C => ?_
      refine st_l C (fun s C => ?_) rfl rfl
      walk_at "xn"
      exact kJ _ ⟨_, _, C, by walk_at "lk", ⟨_, by walk_at "lk"⟩, by walk_at "lk", .inr ⟨hf, hb⟩⟩
  · rintro s ⟨m, v, C, m1, ⟨t, m2⟩, m3, hp⟩
    walk_at "xc"
    refine wpAny_If ?_
    have hvi : v = .none ∨ ∃ p t, v = .int p t := by
      rcases hp with ⟨p, t, _, rfl⟩ | ⟨_, ⟨_, rfl⟩ | ⟨z, t, rfl, _, _⟩⟩
      · exact .inr ⟨_, _, rfl⟩
      · exact .inl rfl
      · exact .inr ⟨_, _, rfl⟩
    rcases hvi with rfl | ⟨p, tp, rfl⟩
    · refine wpAny_isTrue_Compare1 ?_
      refine nm_l C (by walk_at "lk") ?_ rfl rfl (by decide)
      refine Constant_none ?_
      refine is_none_gen ?_
      refine wpAny_truthy_bool ?_
      refine ite_t rfl ?_
      walk_at "xc"
      refine wpAny_Return_some ?_
      refine Constant_none ?_
      walk_at "ar"
      try walk_at "rt"
      exact kQ _ _ _ _ C (fun C => K0 _ hp C)
    · refine wpAny_isTrue_Compare1 ?_
      refine nm_l C (by walk_at "lk") ?_ rfl rfl (by decide)
      refine Constant_none ?_
      refine PyProof.Rows.is_int_none ?_
      refine wpAny_truthy_bool ?_
      refine ite_f rfl ?_
      walk_at "xn"
      obtain ⟨hcv, hp0⟩ := place_int hp RF.hg
      walk_at "xc"
      refine wpAny_Expr_any ?_
      refine opv fun _ _ => ?_
      refine MethodCall_ ?_
      refine Attribute_any_ ?_
      refine nm_l C (by walk_at "lk") ?_ rfl rfl (by decide)
      refine at_free C P.hx P.hS P.so fun s C => ?_
      refine mr_take C RF.hr ?_
      refine cw_more C (by k_is) ?_
      refine spliced_more ?_
      refine nm_l C (by walk_at "lk") ?_ rfl rfl (by decide)
      refine spliced_more ?_
      refine nm_l C (by walk_at "lk") ?_ rfl rfl (by decide)
      refine spliced_none ?_
      refine ⟨C.Xs, ?_⟩
      refine take_v C P.fr hp0 hy (fun _ led1 rows1 s kp R1 hm1 C1 => ?_) (fun hn => absurd hcv hn)
      walk_at "op"
      have P1 := P.freed C kp R1
      replace C := C1
      walk_at "xc"
      refine plainObj_wpAny_Assign_Attribute ?_ (by with_unfolding_all rfl)
      refine wpAny_BinOp ?_
      refine nm_l C (by walk_at "lk") ?_ rfl rfl (by decide)
      refine nm_l C (by walk_at "lk") ?_ rfl rfl (by decide)
      with_reducible refine a_add C fun t s C => ?_
      refine nm_l C (by walk_at "lk") ?_ rfl rfl (by decide)
      refine st_cursor C P1.hx P1.hS P1.so fun oS' led2 s so2 kp2 hS2 hx2 C2 => ?_
      have P2 := P1.cursored C kp2 hS2 so2 hx2
      replace C := C2
      walk_at "xc"
      refine wpAny_Return_some ?_
      refine nm_l C (by walk_at "lk") ?_ rfl rfl (by decide)
      walk_at "ar"
      try walk_at "rt"
      refine kQ _ _ _ _ C (fun C => K1 p tp _ _ _ hp (P2.out ?_) hm1 C)
      exact kp.trans kp2 (fun a ha => by rw [List.mem_singleton.mp ha]; exact .tail _ (.tail _ (.head _))) (fun a ha => by rw [List.mem_singleton.mp ha]; exact .head _)
end
end Mine
end

section
open PySem PySem.W PySem.Calls PyProof.Rows PyProof.Rows.LCg
namespace Mine
noncomputable def MemW (ws : List (Int × Rows)) (k x : Int) : Prop := ∃ rows, (k, rows) ∈ ws ∧ Mem rows x
theorem memW_append {a b : List (Int × Rows)} {k x : Int} : MemW (a ++ b) k x ↔ MemW a k x ∨ MemW b k x := by
  unfold MemW
  constructor
  · rintro ⟨r, h, q⟩
    rcases List.mem_append.mp h with h | h
    · exact .inl ⟨r, h, q⟩
    · exact .inr ⟨r, h, q⟩
  · rintro (⟨r, h, q⟩ | ⟨r, h, q⟩)
    · exact ⟨r, List.mem_append_left _ h, q⟩
    · exact ⟨r, List.mem_append_right _ h, q⟩
theorem nodup_get {α : Type} {l : List α} (hn : l.Nodup) {i j : Nat} (hi : i < l.length) (hj : j < l.length) (h : l[i] = l[j]) : i = j := by
  have p := List.pairwise_iff_getElem.mp hn
  rcases Nat.lt_trichotomy i j with q | q | q
  · exact absurd h (p i j hi hj q)
  · exact q
  · exact absurd h.symm (p j i hj hi q)
theorem nodup_key {α β : Type} {l : List (α × β)} (hn : (l.map (·.1)).Nodup) {i j : Nat} (hi : i < l.length) (hj : j < l.length) (h : (l[i]).1 = (l[j]).1) : i = j := by
  exact nodup_get hn (by simpa using hi) (by simpa using hj) (by simpa using h)
theorem memW_set {ws : List (Int × Rows)} {i : Nat} (hi : i < ws.length) {rows' : Rows} {P : Int → Prop} (hr : ∀ x, Mem rows' x ↔ Mem (ws[i]).2 x ∨ P x) (k x : Int) :
    MemW (ws.set i ((ws[i]).1, rows')) k x ↔ MemW ws k x ∨ (k = (ws[i]).1 ∧ P x) := by
  unfold MemW
  constructor
  · rintro ⟨r, h, q⟩
    obtain ⟨j, hj, e⟩ := List.getElem_of_mem h
    rw [List.getElem_set] at e
    have hj' : j < ws.length := by simpa using hj
    by_cases c : i = j
    · rw [if_pos c] at e
      cases e
      rcases (hr x).mp q with q | q
      · exact .inl ⟨_, List.getElem_mem hi, q⟩
      · exact .inr ⟨rfl, q⟩
    · rw [if_neg c] at e
      exact .inl ⟨r, e ▸ List.getElem_mem hj', q⟩
  · rintro (⟨r, h, q⟩ | ⟨rfl, q⟩)
    · obtain ⟨j, hj, e⟩ := List.getElem_of_mem h
      by_cases c : i = j
      · subst c
        have e1 : (ws[i]).1 = k := by rw [e]
        have e2 : (ws[i]).2 = r := by rw [e]
        refine ⟨rows', ?_, (hr x).mpr (.inl (e2 ▸ q))⟩
        rw [← e1]
        exact List.mem_iff_getElem.mpr ⟨i, by simpa using hi, by rw [List.getElem_set, if_pos rfl]⟩
      · exact ⟨r, List.mem_iff_getElem.mpr ⟨j, by simpa using hj, by rw [List.getElem_set, if_neg c, e]⟩, q⟩
    · exact ⟨rows', List.mem_iff_getElem.mpr ⟨i, by simpa using hi, by rw [List.getElem_set, if_pos rfl]⟩, (hr x).mpr (.inr q)⟩
namespace WsV
variable {led led' : Led}
theorem at2 : ∀ {kvs : List (Int × Value)} {ws : List (Int × Rows)} {ls : List Addr}, WsV led kvs ws ls → ∀ (i : Nat) (hi : i < ws.length), ∃ r l, kvs[i]? = some ((ws[i]).1, .ref r) ∧ ls[i]? = some l ∧ RgV led r l (ws[i]).2
  | [], [], [], _, i, hi => absurd hi (Nat.not_lt_zero _)
  | kv :: _, p :: _, l :: _, h, 0, _ => by
    obtain ⟨r, e, R⟩ := h.2.1
    exact ⟨r, l, by show some kv = some (p.1, Value.ref r); rw [← h.1, ← e], rfl, R⟩
  | _ :: _, _ :: _, _ :: _, h, i + 1, hi => h.2.2.at2 i (Nat.lt_of_succ_lt_succ hi)
theorem of_at : ∀ {kvs : List (Int × Value)} {ws : List (Int × Rows)} {ls : List Addr}, kvs.length = ws.length → ls.length = ws.length → (∀ (i : Nat) (hi : i < ws.length), ∃ r l, kvs[i]? = some ((ws[i]).1, .ref r) ∧ ls[i]? = some l ∧ RgV led r l (ws[i]).2) → WsV led kvs ws ls
  | [], [], [], _, _, _ => trivial
  | kv :: kvs, p :: ws, l :: ls, h1, h2, h => by
    obtain ⟨r, l', e1, e2, R⟩ := h 0 (Nat.zero_lt_succ _)
    have e1' : kv = (p.1, Value.ref r) := Option.some.inj e1
    have e2' : l = l' := Option.some.inj e2
    subst e2'
    refine ⟨by rw [e1'], ⟨r, by rw [e1'], R⟩, of_at (Nat.succ.inj h1) (Nat.succ.inj h2) fun i hi => h (i + 1) (Nat.succ_lt_succ hi)⟩
  | [], _ :: _, _, h, _, _ => by cases h
  | _ :: _, [], _, h, _, _ => by cases h
  | [], [], _ :: _, _, h, _ => by cases h
  | _ :: _, _ :: _, [], _, h, _ => by cases h
theorem drop_key (k : Int) : ∀ {kvs : List (Int × Value)} {ws : List (Int × Rows)} {ls : List Addr}, WsV led kvs ws ls → ∃ ls', ls'.Sublist ls ∧ WsV led (PySem.without kvs k) (ws.filter fun p => decide (p.1 ≠ k)) ls'
  | [], [], [], _ => ⟨[], .slnil, trivial⟩
  | kv :: kvs, p :: ws, l :: ls, h => by
    obtain ⟨ls', h1, h2⟩ := h.2.2.drop_key k
    have e := h.1
    by_cases c : p.1 = k
    · refine ⟨ls', h1.cons _, ?_⟩
      unfold PySem.without at h2 ⊢
      rw [List.filter_cons_of_neg (by simp [e, c]), List.filter_cons_of_neg (by simp [c])]
      exact h2
    · refine ⟨l :: ls', h1.cons_cons _, ?_⟩
      unfold PySem.without at h2 ⊢
      rw [List.filter_cons_of_pos (by simp [e, c]), List.filter_cons_of_pos (by simp [c])]
      exact ⟨e, h.2.1, h2⟩
end WsV
section
variable {prog : Program} {w : World} {c : Cfg} {A : Around} {n : Nat} {m : Loc} {led : Led} {s : Shared} {E : Value → Shared → Prop}
theorem WsV.set {led' : Led} {kvs : List (Int × Value)} {ws : List (Int × Rows)} {ls : List Addr} (h : WsV led kvs ws ls) (C : Cx w c A n m led s) (hn : ls.Nodup) {i : Nat} (hi : i < ws.length) {r l : Addr} {rows' : Rows}
    (hk : kvs[i]? = some ((ws[i]).1, .ref r)) (hl : ls[i]? = some l) (kp : Kp [l] led led') (R : RgV led' r l rows') : WsV led' kvs (ws.set i ((ws[i]).1, rows')) ls := by
  obtain ⟨h1, h2⟩ := h.len
  have hm : ∀ a ∈ [l], ∃ o, (a, o) ∈ led ∧ Mut o := by
    intro a ha
    rw [List.mem_singleton.mp ha]
    obtain ⟨_, _, _, e, i', k', R'⟩ := h.at2 i hi
    rw [hl] at e
    cases e
    exact ⟨_, R'.hl, Mut.list _ _⟩
  refine WsV.of_at (by simpa using h1) (by simpa using h2) fun j hj => ?_
  have hj' : j < ws.length := by simpa using hj
  rw [List.getElem_set]
  by_cases q : i = j
  · subst q
    rw [if_pos rfl]
    exact ⟨r, l, hk, hl, R⟩
  · rw [if_neg q]
    obtain ⟨r2, l2, e1, e2, R2⟩ := h.at2 j hj'
    refine ⟨r2, l2, e1, e2, R2.kp C kp hm ?_⟩
    rw [List.mem_singleton]
    rintro rfl
    rw [List.getElem?_eq_some_iff] at hl e2
    obtain ⟨a1, a2⟩ := hl
    obtain ⟨b1, b2⟩ := e2
    exact q (nodup_get hn a1 b1 (by rw [a2, b2]))
end
end Mine
end

section
open PySem PySem.W PySem.Calls PyProof.Rows PyProof.Rows.LCg
namespace Mine
noncomputable def GivenI (b mn : Int) (free : Rows) (ws : List (Int × Rows)) (a y : Int) : Prop := b ≤ a ∧ a + y ≤ b + mn ∧ ¬ Meets free a y ∧ ∀ p ∈ ws, ¬ Meets p.2 a y
noncomputable def keysG (ks : List Int) (k : Int) : List Int := if k ∈ ks then ks else ks ++ [k]
theorem keysG_mem {ks : List Int} {k : Int} : k ∈ keysG ks k := by
  unfold keysG
  split
  · assumption
  · exact List.mem_append_right _ (.head _)
section
variable {prog : Program} {w : World} {c : Cfg} {A : Around} {n : Nat} {m : Loc} {led : Led} {s : Shared} {E : Value → Shared → Prop}
variable {x : Addr} {b mn cur : Int} {dS r wd lf : Addr} {oS oW : Obj} {kvs : List (Int × Value)} {ls : List Addr} {free : Rows} {ws : List (Int × Rows)}
theorem SlP.dicted {oW' : Obj} {kvs' : List (Int × Value)} {ws' : List (Int × Rows)} {ls' : List Addr} {led' : Led} (P : SlP prog w led x b mn cur dS oS r wd oW lf kvs ls free ws) (C : Cx w c A n m led s) (kp : Kp [wd] led led') (hW : (wd, oW') ∈ led') (dc : DcI prog w wd oW' kvs')
    (W : WsV led' kvs' ws' ls') (nd : ls'.Nodup) (hd : ∀ l ∈ ls', l ≠ dS ∧ l ≠ wd ∧ l ≠ lf) : SlP prog w led' x b mn cur dS oS r wd oW' lf kvs' ls' free ws' := by
  obtain ⟨n1, n2, n3, n4⟩ := P.nf
  have hxw : x ≠ wd := fun q => by
    have := C.one P.hx (q ▸ P.hW)
    obtain ⟨es, ep, x, _⟩ := P.dc.is
    rw [← this] at x
    exact absurd x.1 (by simp)
  have hm : ∀ a ∈ [wd], ∃ o, (a, o) ∈ led ∧ Mut o := fun a ha => by rw [List.mem_singleton.mp ha]; exact ⟨_, P.hW, P.dc.mut⟩
  refine ⟨kp _ P.hx (by rw [List.mem_singleton]; exact hxw), kp _ P.hS (by rw [List.mem_singleton]; exact n1), P.so, hW, dc, P.fr.kp C kp hm (by rw [List.mem_singleton]; exact n3.symm), W, ?_⟩
  simp only [List.nodup_cons, List.mem_cons, not_or]
  exact ⟨⟨n1, n2, fun q => (hd _ q).1 rfl⟩, ⟨n3, fun q => (hd _ q).2.1 rfl⟩, fun q => (hd _ q).2.2 rfl, nd⟩
inductive J14 (prog : Program) (w : World) (c : Cfg) (A : Around) (n : Nat) (led : Led) (x dS : Addr) (oS : Obj) (r wd lf : Addr) (ls : List Addr) (b mn cur a y g : Int) (t1 t2 t3 : Tok) (free : Rows) (ws : List (Int × Rows)) (s : Shared) : Prop
  | mk (m : Loc) (led1 : Led) (oW1 : Obj) (kvs1 : List (Int × Value)) (ls1 : List Addr) (ws1 : List (Int × Rows)) (C : Cx w c A n m led1 s) (m1 : m (Str.ofString "self") = some (.ref x)) (m2 : m (Str.ofString "sector") = some (.int a t1)) (m3 : m (Str.ofString "count") = some (.int y t2)) (m4 : m (Str.ofString "txg") = some (.int g t3))
     (P : SlP prog w led1 x b mn cur dS oS r wd oW1 lf kvs1 ls1 free ws1) (kp : Kp (dS :: wd :: lf :: ls) led led1) (h1 : ∀ l ∈ ls1, l ∈ ls ∨ ∀ p ∈ led, p.1 ≠ l) (h2 : ws1.map (·.1) = keysG (ws.map (·.1)) g) (h3 : ∀ k x, MemW ws1 k x ↔ MemW ws k x) (h4 : ∀ p ∈ ws1, ¬ Meets p.2 a y) : J14 prog w c A n led x dS oS r wd lf ls b mn cur a y g t1 t2 t3 free ws s
theorem sl_give_x {Q : Value → Shared → Prop} {a y g : Int} {t1 t2 t3 : Tok} (C : Cx w c A (n + 6) m led s) (P : SlP prog w led x b mn cur dS oS r wd oW lf kvs ls free ws) (ha : 0 ≤ a) (hy : 0 < y) (hz : ws.length ≤ 900) (hn : ¬ GivenI b mn free ws a y)
    (KE : ∀ e s, XP c m led e s → E (.ref e) s) : wpAny (model prog w) A (call (.ref 270) [.ref x, .int a t1, .int y t2, .int g t3]) Q E s := by
  refine enterX (binds := [(Str.ofString "self", .ref x), (Str.ofString "sector", .int a t1), (Str.ofString "count", .int y t2), (Str.ofString "txg", .int g t3)]) C (by k_is) (by k_is) (BindsTo.of_eq rfl) (locs rfl) (fun c A s C Qr Er kQ kE => ?_) KE rfl rfl rfl (by decide)
  walk_at "xc"
  refine wpAny_If ?_
  refine isTrue_or ?_
  refine opv fun _ _ => ?_
  refine isTrue_not ?_
  refine isTrue_plain ?_
  refine MethodCall_ ?_
  refine nm_l C (by walk_at "lk") ?_ rfl rfl (by decide)
  refine ms_covers C P.hx P.hS P.so ?_
  refine cw_more C (by k_is) ?_
  refine spliced_more ?_
  refine nm_l C (by walk_at "lk") ?_ rfl rfl (by decide)
  refine spliced_more ?_
  refine nm_l C (by walk_at "lk") ?_ rfl rfl (by decide)
  refine spliced_none ?_
  refine ⟨C.Xs, ?_⟩
  refine sl_covers C P fun v s hv C => ?_
  refine wpAny_truthy_bool ?_
  walk_at "op"
  by_cases hc : v = true
  · refine ite_f (by rw [hc]; rfl) ?_
    refine isTrue_or ?_
    refine opv fun _ _ => ?_
    refine isTrue_not ?_
    refine isTrue_plain ?_
    refine MethodCall_ ?_
    refine nm_l C (by walk_at "lk") ?_ rfl rfl (by decide)
    refine ms_is_given C P.hx P.hS P.so ?_
    refine cw_more C (by k_is) ?_
    refine spliced_more ?_
    refine nm_l C (by walk_at "lk") ?_ rfl rfl (by decide)
    refine spliced_more ?_
    refine nm_l C (by walk_at "lk") ?_ rfl rfl (by decide)
    refine spliced_none ?_
    refine ⟨C.Xs, ?_⟩
    refine sl_given C P (by lia) ha (by lia) fun v2 s hv2 C => ?_
    refine wpAny_truthy_bool ?_
    walk_at "op"
    have h2 : v2 = false := by
      cases v2 with
      | false => rfl
      | true => exact absurd ⟨(hv.mp hc).1, (hv.mp hc).2.2, (hv2.mp rfl).1, (hv2.mp rfl).2⟩ hn
    refine ite_t (by rw [h2]; rfl) ?_
    refine ite_t rfl ?_
    walk_at "xc"
    refine x_raise C (fun e oe s ho C => ?_) rfl rfl
    exact kE _ _ (.inl ⟨e, oe, _, _, rfl, ho, C⟩)
  · refine ite_t (by cases v; rfl; exact absurd rfl hc) ?_
    refine ite_t rfl ?_
    walk_at "xc"
    refine x_raise C (fun e oe s ho C => ?_) rfl rfl
    exact kE _ _ (.inl ⟨e, oe, _, _, rfl, ho, C⟩)
theorem sl_give {Q : Value → Shared → Prop} {a y g : Int} {t1 t2 t3 : Tok} (C : Cx w c A (n + 6) m led s) (P : SlP prog w led x b mn cur dS oS r wd oW lf kvs ls free ws) (ha : 0 ≤ a) (hy : 0 < y) (hz : ws.length ≤ 900) (hbm : b + mn ≤ 1000) (hgv : GivenI b mn free ws a y)
    (K : ∀ ws' led' s, SlOut prog w led led' x b mn cur (dS :: wd :: lf :: ls) free ws' → ws'.map (·.1) = keysG (ws.map (·.1)) g → (∀ k x, MemW ws' k x ↔ MemW ws k x ∨ (k = g ∧ (a ≤ x ∧ x < a + y))) → Cx w c A (n + 6) m led' s → Q .none s) :
    wpAny (model prog w) A (call (.ref 270) [.ref x, .int a t1, .int y t2, .int g t3]) Q E s := by
  have hkl := P.ws.len
  have hk := P.ws.keys
  obtain ⟨gi1, gi2, gi3, gi4⟩ := hgv
  refine enter0 (binds := [(Str.ofString "self", .ref x), (Str.ofString "sector", .int a t1), (Str.ofString "count", .int y t2), (Str.ofString "txg", .int g t3)]) C (by k_is) (by k_is) (BindsTo.of_eq rfl) (locs rfl) (fun c A E s C Qr kQ => ?_) rfl rfl rfl (by decide)
  walk_at "xc"
  refine wpAny_If ?_
  refine isTrue_or ?_
  refine opv fun _ _ => ?_
  refine isTrue_not ?_
  refine isTrue_plain ?_
  refine MethodCall_ ?_
  refine nm_l C (by walk_at "lk") ?_ rfl rfl (by decide)
  refine ms_covers C P.hx P.hS P.so ?_
  refine cw_more C (by k_is) ?_
  refine spliced_more ?_
  refine nm_l C (by walk_at "lk") ?_ rfl rfl (by decide)
  refine spliced_more ?_
  refine nm_l C (by walk_at "lk") ?_ rfl rfl (by decide)
  refine spliced_none ?_
  refine ⟨C.Xs, ?_⟩
  refine sl_covers C P fun v s hv C => ?_
  refine wpAny_truthy_bool ?_
  walk_at "op"
  refine ite_f (by rw [hv.mpr ⟨gi1, by lia, gi2⟩]; rfl) ?_
  refine isTrue_or ?_
  refine opv fun _ _ => ?_
  refine isTrue_not ?_
  refine isTrue_plain ?_
  refine MethodCall_ ?_
  refine nm_l C (by walk_at "lk") ?_ rfl rfl (by decide)
  refine ms_is_given C P.hx P.hS P.so ?_
  refine cw_more C (by k_is) ?_
  refine spliced_more ?_
  refine nm_l C (by walk_at "lk") ?_ rfl rfl (by decide)
  refine spliced_more ?_
  refine nm_l C (by walk_at "lk") ?_ rfl rfl (by decide)
  refine spliced_none ?_
  refine ⟨C.Xs, ?_⟩
  refine sl_given C P (by lia) ha (by omega) fun v2 s hv2 C => ?_
  refine wpAny_truthy_bool ?_
  walk_at "op"
  refine ite_f (by rw [hv2.mpr ⟨gi3, gi4⟩]; rfl) ?_
  refine isTrue_or_nil ?_
  refine ite_f rfl ?_
  walk_at "xn"
  walk_at "xc"
  refine if_join (J14 prog w c A (n + 5) led x dS oS r wd lf ls b mn cur a y g t1 t2 t3 free ws) ?_ ?_
  · intro Qj kJ
    refine wpAny_isTrue_Compare1 ?_
    refine nm_l C (by walk_at "lk") ?_ rfl rfl (by decide)
    refine Attribute_any_ ?_
    refine nm_l C (by walk_at "lk") ?_ rfl rfl (by decide)
    refine at_waits C P.hx P.hS P.so fun s C => ?_
    refine d_notin C P.hW P.dc fun s C => ?_
    refine wpAny_truthy_bool ?_
    by_cases hg : g ∈ kvs.map (·.1)
    · have hs : (valueAt kvs g).isSome = true := by
        rw [valueAt_isSome_eq_any, List.any_eq_true]
        obtain ⟨p, hp, e⟩ := List.mem_map.mp hg
        exact ⟨p, hp, decide_eq_true e⟩
      refine ite_f (by rw [hs]; rfl) ?_
      walk_at "xn"
      exact kJ _ ⟨_, _, _, _, _, _, C, by walk_at "lk", by walk_at "lk", by walk_at "lk", by walk_at "lk", P, Kp.rfl' _ _, fun l h => .inl h, by rw [hk] at hg; unfold keysG; rw [if_pos hg], fun _ _ => Iff.rfl, gi4⟩
    · have hs := Mine.valueAt_none hg
      refine ite_t (by rw [hs]; rfl) ?_
      walk_at "xc"
      refine wpAny_Assign_Subscript ?_ (by with_unfolding_all rfl)
      refine Call_ ?_
      refine nm_g C (by k_is) ?_ rfl rfl (by decide)
      refine cw_none C (by k_is) ?_
      refine new_rg0 C fun f l0 dx led1 s k1 f1 hi0 R0 C => ?_
      have P1 := P.mono k1
      refine Attribute_any_ ?_
      refine nm_l C (by walk_at "lk") ?_ rfl rfl (by decide)
      refine at_waits C P1.hx P1.hS P1.so fun s C => ?_
      refine nm_l C (by walk_at "lk") ?_ rfl rfl (by decide)
      have hls : l0 ∉ dS :: wd :: lf :: ls := fun q => by
        obtain ⟨o, ho, _⟩ := P.muts _ q
        exact (f1 _ ho).1 rfl
      have C1 := C
      obtain ⟨led2, C, kp, s2⟩ := C.front P1.hW
      refine d_set C P1.dc (by lia) fun oW' s dc' C => ?_
      rw [stored_absent hs] at dc'
      have kp2 : Kp [wd] led1 ((wd, oW') :: led2) := fun p hp hn => .tail _ (kp p hp hn)
      have hm : ∀ a ∈ [wd], ∃ o, (a, o) ∈ led1 ∧ Mut o := fun a ha => by rw [List.mem_singleton.mp ha]; exact ⟨_, P1.hW, P1.dc.mut⟩
      obtain ⟨n1, n2, n3, n4⟩ := P.nf
      simp only [List.mem_cons, not_or] at hls
      have R2 : RgV ((wd, oW') :: led2) f l0 [] := RgV.kp ⟨_, _, R0⟩ C1 kp2 hm (by rw [List.mem_singleton]; exact hls.2.1)
      have W2 : WsV ((wd, oW') :: led2) (kvs ++ [(g, .ref f)]) (ws ++ [(g, [])]) (ls ++ [l0]) := WsV.append (P1.ws.kp C1 kp2 hm (fun l hl => by rw [List.mem_singleton]; exact (n4 l hl).2.1)) ⟨rfl, ⟨f, rfl, R2⟩, trivial⟩
      have P2 := P1.dicted C1 kp2 (.head _) dc' W2 (by
        rw [List.nodup_append]
        refine ⟨(P.nd.sublist ((List.sublist_cons_self _ _).trans ((List.sublist_cons_self _ _).trans (List.sublist_cons_self _ _)))), List.pairwise_singleton _ _, fun a ha b' hb' e => ?_⟩
        rw [List.mem_singleton] at hb'
        exact hls.2.2.2 (hb' ▸ e ▸ ha)) (fun l hl => by
        rcases List.mem_append.mp hl with hl | hl
        · exact n4 l hl
        · rw [List.mem_singleton.mp hl]; exact ⟨hls.1, hls.2.1, hls.2.2.1⟩)
      walk_at "xn"
      refine kJ _ ⟨_, _, _, _, _, _, C, by walk_at "lk", by walk_at "lk", by walk_at "lk", by walk_at "lk", P2, ?_, ?_, ?_, ?_, ?_⟩
      · exact fun p hp hn => kp2 p (k1 p hp) fun q => hn (.tail _ (by rw [List.mem_singleton.mp q]; exact .head _))
      · intro l hl
        rcases List.mem_append.mp hl with hl | hl
        · exact .inl hl
        · rw [List.mem_singleton.mp hl]; exact .inr fun p hp => (f1 p hp).1
      · rw [hk] at hg; unfold keysG; rw [if_neg hg, List.map_append]; rfl
      · intro k x
        rw [memW_append]
        refine ⟨fun q => q.elim id fun ⟨r, h1, h2⟩ => ?_, .inl⟩
        rw [List.mem_singleton] at h1
        cases h1
        exact absurd h2 mem_nil
      · intro p hp
        rcases List.mem_append.mp hp with hp | hp
        · exact gi4 p hp
        · rw [List.mem_singleton.mp hp]; rintro ⟨x, _, _, h⟩; exact mem_nil h
  · rintro s ⟨m, led1, oW1, kvs1, ls1, ws1, C, m1, m2, m3, m4, P1, kp1, hls1, hk1, hmw, hmt⟩
    obtain ⟨i, hi, hig⟩ : ∃ i, ∃ hi : i < ws1.length, (ws1[i]).1 = g := by
      have : g ∈ ws1.map (·.1) := by rw [hk1]; exact keysG_mem
      obtain ⟨p, hp, e⟩ := List.mem_map.mp this
      obtain ⟨i, hi, rfl⟩ := List.getElem_of_mem hp
      exact ⟨i, hi, e⟩
    obtain ⟨rg, lg, hkv, hlg, Rg1⟩ := P1.ws.at2 i hi
    have hval := valueAt_get P1.dc.nodup hkv
    rw [hig] at hval
    obtain ⟨i1, j1, Rg1'⟩ := id Rg1
    have C1 := C
    walk_at "xc"
    refine wpAny_Expr_any ?_
    refine opv fun _ _ => ?_
    refine MethodCall_ ?_
    refine Subscript_ ?_
    refine Attribute_any_ ?_
    refine nm_l C (by walk_at "lk") ?_ rfl rfl (by decide)
    refine at_waits C P1.hx P1.hS P1.so fun s C => ?_
    refine nm_l C (by walk_at "lk") ?_ rfl rfl (by decide)
    refine d_item C P1.hW P1.dc hval (fun s C => ?_) (by with_unfolding_all rfl)
    refine mr_add C Rg1'.hr ?_
    refine cw_more C (by k_is) ?_
    refine spliced_more ?_
    refine nm_l C (by walk_at "lk") ?_ rfl rfl (by decide)
    refine spliced_more ?_
    refine nm_l C (by walk_at "lk") ?_ rfl rfl (by decide)
    refine spliced_none ?_
    refine ⟨C.Xs, ?_⟩
    refine add_v C Rg1 ha hy (by lia) (hmt _ (List.getElem_mem hi)) fun led2 rows2 s kp2 R2 hm2 C => ?_
    walk_at "op"
    walk_at "xn"
    obtain ⟨n1, n2, n3, n4⟩ := P1.nf
    have hlm : lg ∈ ls1 := List.mem_of_getElem? hlg
    have hxl : x ≠ lg := C1.diff P1.hx Rg1'.hl (by simp [PySem.W.listOf])
    have hm : ∀ a ∈ [lg], ∃ o, (a, o) ∈ led1 ∧ Mut o := fun a ha => by rw [List.mem_singleton.mp ha]; exact ⟨_, Rg1'.hl, Mut.list _ _⟩
    have nd1 : ls1.Nodup := P1.nd.sublist ((List.sublist_cons_self _ _).trans ((List.sublist_cons_self _ _).trans (List.sublist_cons_self _ _)))
    have W2 := P1.ws.set C1 nd1 hi hkv hlg kp2 R2
    have P2 : SlP prog w led2 x b mn cur dS oS r wd oW1 lf kvs1 ls1 free (ws1.set i ((ws1[i]).1, rows2)) :=
      ⟨kp2 _ P1.hx (by rw [List.mem_singleton]; exact hxl), kp2 _ P1.hS (by rw [List.mem_singleton]; exact (n4 _ hlm).1.symm), P1.so, kp2 _ P1.hW (by rw [List.mem_singleton]; exact (n4 _ hlm).2.1.symm), P1.dc, P1.fr.kp C1 kp2 hm (by rw [List.mem_singleton]; exact (n4 _ hlm).2.2.symm), W2, P1.nd⟩
    try walk_at "rt"
    refine kQ _ _ _ _ C (fun C => K _ _ _ ⟨?_, _, ⟨_, _, _, _, _, _, _, _, P2, rfl⟩, ?_⟩ ?_ ?_ C)
    · intro p hp hn
      refine kp2 p (kp1 p hp hn) fun q => ?_
      rw [List.mem_singleton] at q
      rcases hls1 _ hlm with h | h
      · exact hn (.tail _ (.tail _ (.tail _ (q ▸ h))))
      · exact h p hp q
    · exact all3 (.inl (.head _)) (.inl (.tail _ (.head _))) (.inl (.tail _ (.tail _ (.head _)))) fun a ha => (hls1 a ha).imp (fun h => .tail _ (.tail _ (.tail _ h))) id
    · rw [← hk1]
      refine List.ext_getElem (by simp) fun j h1 h2 => ?_
      simp only [List.getElem_map, List.getElem_set]
      split
      · rename_i q; subst q; rfl
      · rfl
    · intro k x
      rw [memW_set hi hm2 k x, hmw k x, hig]
end
end Mine
end

section
open PySem PySem.W PySem.Calls PyProof.Rows PyProof.Rows.LCg
namespace Mine
theorem filter_step {ks : List Int} (hn : ks.Nodup) {i : Nat} (hi : i < ks.length) (due : Int → Bool) (hd : due ks[i] = true) :
    ((ks.take i).filter (fun k => !due k) ++ ks.drop i).filter (fun k => decide (k ≠ ks[i])) = (ks.take (i + 1)).filter (fun k => !due k) ++ ks.drop (i + 1) := by
  have h1 : ∀ j (hj : j < ks.length), j ≠ i → ks[j] ≠ ks[i] := fun j hj hji e => hji (nodup_get hn hj hi e)
  have h2 : ((ks.take i).filter (fun k => !due k)).filter (fun k => decide (k ≠ ks[i])) = (ks.take i).filter (fun k => !due k) := by
    refine List.filter_eq_self.mpr fun k hk => ?_
    obtain ⟨hk, _⟩ := List.mem_filter.mp hk
    obtain ⟨j, hj, rfl⟩ := List.getElem_of_mem hk
    rw [List.length_take] at hj
    rw [List.getElem_take]
    exact decide_eq_true (h1 j (by lia) (by lia))
  have h3 : (ks.drop (i + 1)).filter (fun k => decide (k ≠ ks[i])) = ks.drop (i + 1) := by
    refine List.filter_eq_self.mpr fun k hk => ?_
    obtain ⟨j, hj, rfl⟩ := List.getElem_of_mem hk
    rw [List.length_drop] at hj
    rw [List.getElem_drop]
    exact decide_eq_true (h1 (i + 1 + j) (by omega) (by lia))
  rw [List.filter_append, h2, List.drop_eq_getElem_cons hi, List.filter_cons_of_neg (by simp), h3, take_snoc hi, List.filter_append, List.filter_cons_of_neg (by simp [hd]), List.filter_nil, List.append_nil]
structure SetI (ks : List Int) (d g : Int) (F : Int → Prop) (W : Int → Int → Prop) (i : Nat) (F' : Int → Prop) (ks' : List Int) (W' : Int → Int → Prop) : Prop where
  hk : ks' = (ks.take i).filter (fun k => !decide (k + d ≤ g)) ++ ks.drop i
  hW : ∀ k x, W' k x ↔ W k x ∧ ¬ (k ∈ ks.take i ∧ k + d ≤ g)
  hF : ∀ x, F' x ↔ F x ∨ ∃ k ∈ ks.take i, k + d ≤ g ∧ W k x
section
variable {ks ks' ks'' : List Int} {d g : Int} {F F' F'' : Int → Prop} {W W' W'' : Int → Int → Prop} {i : Nat}
theorem seti_nil (ks : List Int) (d g : Int) (F : Int → Prop) (W : Int → Int → Prop) : SetI ks d g F W 0 F ks W := ⟨by simp, fun k x => by simp, fun x => by simp⟩
theorem SetI.mem (h : SetI ks d g F W i F' ks' W') (hi : i < ks.length) : ks[i] ∈ ks' := by
  rw [h.hk, List.drop_eq_getElem_cons hi]
  exact List.mem_append_right _ (.head _)
theorem SetI.len (h : SetI ks d g F W i F' ks' W') : ks'.length ≤ ks.length := by
  have e1 := congrArg List.length h.hk
  rw [List.length_append, List.length_drop] at e1
  have e2 := List.length_filter_le (fun k => !decide (k + d ≤ g)) (ks.take i)
  rw [List.length_take] at e2
  omega
theorem seti_not (hi : i < ks.length) (hd : ¬ ks[i] + d ≤ g) (h : SetI ks d g F W i F' ks' W') : SetI ks d g F W (i + 1) F' ks' W' := by
  refine ⟨?_, fun k x => ?_, fun x => ?_⟩
  · rw [h.hk, List.drop_eq_getElem_cons hi, take_snoc hi, List.filter_append, List.filter_cons_of_pos (by simpa using hd), List.filter_nil, List.append_assoc]; rfl
  · rw [h.hW k x, take_snoc hi, List.mem_append, List.mem_singleton]
    constructor
    · rintro ⟨q1, q2⟩
      exact ⟨q1, fun ⟨q3, q4⟩ => q3.elim (fun q => q2 ⟨q, q4⟩) fun q => hd (q ▸ q4)⟩
    · rintro ⟨q1, q2⟩
      exact ⟨q1, fun ⟨q3, q4⟩ => q2 ⟨.inl q3, q4⟩⟩
  · rw [h.hF x, take_snoc hi]
    constructor
    · rintro (q | ⟨k, q1, q2⟩)
      · exact .inl q
      · exact .inr ⟨k, List.mem_append_left _ q1, q2⟩
    · rintro (q | ⟨k, q1, q2⟩)
      · exact .inl q
      · rcases List.mem_append.mp q1 with q1 | q1
        · exact .inr ⟨k, q1, q2⟩
        · rw [List.mem_singleton.mp q1] at q2; exact absurd q2.1 hd
theorem seti_due (hn : ks.Nodup) (hi : i < ks.length) (hd : ks[i] + d ≤ g) (h : SetI ks d g F W i F' ks' W') (hF : ∀ x, F'' x ↔ F' x ∨ W' ks[i] x) (hk : ks'' = ks'.filter fun k => decide (k ≠ ks[i])) (hW : ∀ k x, W'' k x ↔ W' k x ∧ k ≠ ks[i]) :
    SetI ks d g F W (i + 1) F'' ks'' W'' := by
  refine ⟨?_, fun k x => ?_, fun x => ?_⟩
  · rw [hk, h.hk]
    exact filter_step hn hi _ (decide_eq_true hd)
  · rw [hW, h.hW k x, take_snoc hi, List.mem_append, List.mem_singleton]
    constructor
    · rintro ⟨⟨q1, q2⟩, q3⟩
      exact ⟨q1, fun ⟨q4, q5⟩ => q4.elim (fun q => q2 ⟨q, q5⟩) q3⟩
    · rintro ⟨q1, q2⟩
      exact ⟨⟨q1, fun q => q2 ⟨.inl q.1, q.2⟩⟩, fun q => q2 ⟨.inr q, q ▸ hd⟩⟩
  · rw [hF, h.hF x, h.hW, take_snoc hi]
    have het : ks[i] ∉ ks.take i := by
      intro q
      obtain ⟨j', hj', q'⟩ := List.getElem_of_mem q
      rw [List.length_take] at hj'
      rw [List.getElem_take] at q'
      have := nodup_get hn (by lia) hi q'
      lia
    constructor
    · rintro ((q | ⟨k, q1, q2⟩) | ⟨q1, _⟩)
      · exact .inl q
      · exact .inr ⟨k, List.mem_append_left _ q1, q2⟩
      · exact .inr ⟨_, List.mem_append_right _ (.head _), hd, q1⟩
    · rintro (q | ⟨k, q1, q2⟩)
      · exact .inl (.inl q)
      · rcases List.mem_append.mp q1 with q1 | q1
        · exact .inl (.inr ⟨k, q1, q2⟩)
        · rw [List.mem_singleton.mp q1] at q2
          exact .inr ⟨q2.2, fun q => het q.1⟩
theorem SetI.fin {N : Nat} (h : SetI ks d g F W N F' ks' W') (hN : ks.length ≤ N) (hW : ∀ k x, W k x → k ∈ ks) : ks' = ks.filter (fun k => !decide (k + d ≤ g)) ∧ (∀ k x, W' k x ↔ W k x ∧ ¬ k + d ≤ g) ∧ ∀ x, F' x ↔ F x ∨ ∃ k, k + d ≤ g ∧ W k x := by
  obtain ⟨h1, h2, h3⟩ := h
  rw [List.take_of_length_le hN] at h1
  simp only [List.take_of_length_le hN] at h2 h3
  rw [List.drop_of_length_le hN, List.append_nil] at h1
  refine ⟨h1, fun k x => (h2 k x).trans ⟨fun q => ⟨q.1, fun z => q.2 ⟨hW k x q.1, z⟩⟩, fun q => ⟨q.1, fun z => q.2 z.2⟩⟩, fun x => (h3 x).trans ⟨fun q => q.imp id fun ⟨k, _, z⟩ => ⟨k, z⟩, fun q => q.imp id fun ⟨k, z⟩ => ⟨k, hW k x z.2, z⟩⟩⟩
end
end Mine
end

section
open PySem PySem.W PySem.Calls PyProof.Rows PyProof.Rows.LCg
namespace Mine
theorem memW_filter {ws : List (Int × Rows)} {e k x : Int} : MemW (ws.filter fun p => decide (p.1 ≠ e)) k x ↔ MemW ws k x ∧ k ≠ e := by
  unfold MemW
  constructor
  · rintro ⟨r, h, q⟩
    obtain ⟨h1, h2⟩ := List.mem_filter.mp h
    exact ⟨⟨r, h1, q⟩, by simpa using h2⟩
  · rintro ⟨⟨r, h, q⟩, n⟩
    exact ⟨r, List.mem_filter.mpr ⟨h, by simpa using n⟩, q⟩
theorem memW_at {ws : List (Int × Rows)} (hn : (ws.map (·.1)).Nodup) {i : Nat} (hi : i < ws.length) {x : Int} : MemW ws (ws[i]).1 x ↔ Mem (ws[i]).2 x := by
  constructor
  · rintro ⟨r, h, q⟩
    obtain ⟨j, hj, e⟩ := List.getElem_of_mem h
    have : j = i := nodup_key hn hj hi (by rw [e])
    subst this
    rw [e]; exact q
  · exact fun q => ⟨_, List.getElem_mem hi, q⟩
theorem keys_filter (ws : List (Int × Rows)) (e : Int) : (ws.filter fun p => decide (p.1 ≠ e)).map (·.1) = (ws.map (·.1)).filter fun k => decide (k ≠ e) := by
  rw [List.filter_map]; rfl
section
variable {prog : Program} {w : World} {c : Cfg} {A : Around} {n : Nat} {m : Loc} {led : Led} {s : Shared} {E : Value → Shared → Prop}
variable {x : Addr} {b mn cur : Int} {dS r wd lf : Addr} {oS oW : Obj} {kvs : List (Int × Value)} {ls : List Addr} {free : Rows} {ws : List (Int × Rows)}
theorem SlP.refreed {oS' : Obj} {r' lf' : Addr} {free' : Rows} {led' : Led} (P : SlP prog w led x b mn cur dS oS r wd oW lf kvs ls free ws) (C : Cx w c A n m led s) (kp : Kp [dS] led led') (hS : (dS, oS') ∈ led') (so : SlObj oS' b mn r' wd cur) (hx : (x, instObj 287 dS) ∈ led')
    (R : RgV led r' lf' free') (h1 : lf' ≠ dS) (h2 : lf' ≠ wd) (h3 : lf' ∉ ls) : SlP prog w led' x b mn cur dS oS' r' wd oW lf' kvs ls free' ws := by
  obtain ⟨n1, n2, n3, n4⟩ := P.nf
  have hm := fun a ha => P.so.muts (dS := dS) a ha led P.hS
  refine ⟨hx, hS, so, kp _ P.hW (by rw [List.mem_singleton]; exact n1.symm), P.dc, R.kp C kp hm (by rw [List.mem_singleton]; exact h1), P.ws.kp C kp hm (fun l hl => by rw [List.mem_singleton]; exact (n4 l hl).1), ?_⟩
  simp only [List.nodup_cons, List.mem_cons, not_or]
  exact ⟨⟨n1, h1.symm, fun q => (n4 _ q).1 rfl⟩, ⟨h2.symm, fun q => (n4 _ q).2.1 rfl⟩, h3, P.nd.sublist ((List.sublist_cons_self _ _).trans ((List.sublist_cons_self _ _).trans (List.sublist_cons_self _ _)))⟩
inductive J15 (prog : Program) (w : World) (led : Led) (x dS wd lf S : Addr) (ls : List Addr) (vs : List Value) (js : Nat) (b mn cur g d : Int) (t1 t2 : Tok) (free : Rows) (ws : List (Int × Rows)) (i : Nat) (m' : Loc) (led' : Led) : Prop
  | mk (m1 : m' (Str.ofString "self") = some (.ref x)) (m2 : m' (Str.ofString "txg") = some (.int g t1)) (m3 : m' (Str.ofString "defer") = some (.int d t2)) (kp : Kp (dS :: wd :: lf :: ls) ((S, lstO vs js) :: led) led') (hS : (S, lstO vs js) ∈ led') (oS' : Obj) (r' : Addr) (oW' : Obj) (lf' : Addr) (kvs' : List (Int × Value)) (ls' : List Addr) (free' : Rows) (ws' : List (Int × Rows)) (P : SlP prog w led' x b mn cur dS oS' r' wd oW' lf' kvs' ls' free' ws') (hown : ∀ a ∈ dS :: wd :: lf' :: ls', a ∈ dS :: wd :: lf :: ls ∨ ∀ p ∈ (S, lstO vs js) :: led, p.1 ≠ a) (hI : SetI (ws.map (·.1)) d g (Mem free) (MemW ws) i (Mem free') (ws'.map (·.1)) (MemW ws')) : J15 prog w led x dS wd lf S ls vs js b mn cur g d t1 t2 free ws i m' led'
theorem sl_settle {Q : Value → Shared → Prop} {g d : Int} {t1 t2 : Tok} (C : Cx w c A (n + 6) m led s) (P : SlP prog w led x b mn cur dS oS r wd oW lf kvs ls free ws) (hz : ws.length < 64) (hsrt : (ws.map (·.1)).Pairwise (· ≤ ·))
    (K : ∀ free' ws' led' s, SlOut prog w led led' x b mn cur (dS :: wd :: lf :: ls) free' ws' → ws'.map (·.1) = (ws.map (·.1)).filter (fun k => !decide (k + d ≤ g)) → (∀ k x, MemW ws' k x ↔ MemW ws k x ∧ ¬ k + d ≤ g) → (∀ x, Mem free' x ↔ Mem free x ∨ ∃ k, k + d ≤ g ∧ MemW ws k x) → Cx w c A (n + 6) m led' s → Q .none s) :
    wpAny (model prog w) A (call (.ref 277) [.ref x, .int g t1, .int d t2]) Q E s := by
  have hkl := P.ws.len
  have hk := P.ws.keys
  have hdn := P.dc.nodup
  have hwn : (ws.map (·.1)).Nodup := hk ▸ hdn
  refine enter0 (binds := [(Str.ofString "self", .ref x), (Str.ofString "txg", .int g t1), (Str.ofString "defer", .int d t2)]) C (by k_is) (by k_is) (BindsTo.of_eq rfl) (locs rfl) (fun c A E s C Qr kQ => ?_) rfl rfl rfl (by decide)
  walk_at "xc"
  refine wpAny_For ?_
  refine Call_ ?_
  refine nm_b C (by k_is) (by boot_fast) ?_ (by decide) rfl rfl (by decide)
  refine PyProof.Rows.callWith_builtin1 ?_
  refine spliced_more ?_
  refine Attribute_any_ ?_
  refine nm_l C (by walk_at "lk") ?_ rfl rfl (by decide)
  refine at_waits C P.hx P.hS P.so fun s C => ?_
  refine spliced_none ?_
  refine d_sorted C P.hW P.dc (by lia) (by rw [hk]; exact hsrt) fun S vs js s hvs C => ?_
  have hSf := C.ne
  have P0 := P.mono (led' := (S, lstO vs js) :: led) fun p hp => .tail _ hp
  refine iter_list C (.head _) fun I o s hI C => ?_
  have hvl := IntsAre.length hvs
  rw [List.length_map] at hvl
  refine for_list C hI (J15 prog w led x dS wd lf S ls vs js b mn cur g d t1 t2 free ws)
    (fun i m' led' h => by obtain ⟨_, _, _, _, h⟩ := h; exact h) ⟨by walk_at "lk", by walk_at "lk", by walk_at "lk", Kp.rfl' _ _, .head _, oS, r, oW, lf, kvs, ls, free, ws, P0, fun a ha => .inl ha, seti_nil _ _ _ _ _⟩ (fun v hv => lets_name) ?_ ?_
  · rintro i m' led' s v E' o hvi ⟨m1, m2, m3, kp, hS, oS', r', oW', lf', kvs', ls', free', ws', P', hown, hI'⟩ hIo C T kN kR
    obtain ⟨hi', t, rfl⟩ := ints_get hvs hvi
    have hi : i < (ws.map (·.1)).length := by rw [List.length_map] at hi' ⊢; lia
    have hel : (kvs.map (·.1))[i] = (ws.map (·.1))[i] := by congr 1
    rw [hel]
    generalize hee : (ws.map (·.1))[i] = e
    have hIne := C.ne
    refine wpAny_assign_Name (st_l C (fun s C => ?_) rfl rfl)
    walk_at "xc"
    refine wpAny_If ?_
    refine wpAny_isTrue_Compare1 ?_
    refine wpAny_BinOp ?_
    refine nm_l C (by walk_at "lk") ?_ rfl rfl (by decide)
    refine nm_l C (by walk_at "lk") ?_ rfl rfl (by decide)
    with_reducible refine a_add C fun t s C => ?_
    refine nm_l C (by walk_at "lk") ?_ rfl rfl (by decide)
    refine le_int ?_
    refine wpAny_truthy_bool ?_
    refine ite_dec (fun hdue => ?_) (fun hdue => ?_)
    · have hwn' : (ws'.map (·.1)).Nodup := P'.ws.keys ▸ P'.dc.nodup
      obtain ⟨j, hj, hje⟩ : ∃ j, ∃ hj : j < ws'.length, (ws'[j]).1 = e := by
        have : e ∈ ws'.map (·.1) := by rw [← hee]; exact hI'.mem hi
        obtain ⟨p, hp, q⟩ := List.mem_map.mp this
        obtain ⟨j, hj, rfl⟩ := List.getElem_of_mem hp
        exact ⟨j, hj, q⟩
      obtain ⟨r2, l2, hkv, hl2, R2⟩ := P'.ws.at2 j hj
      have hval := valueAt_get P'.dc.nodup hkv
      rw [hje] at hval
      have P1 := P'.mono (led' := (I, o) :: led') fun p hp => .tail _ hp
      have R21 := R2.mono (led' := (I, o) :: led') fun p hp => .tail _ hp
      have hl2m : l2 ∈ ls' := List.mem_of_getElem? hl2
      obtain ⟨n1, n2, n3, n4⟩ := P1.nf
      obtain ⟨i0, j0, RF⟩ := id P1.fr
      have hln := P'.ws.len
      have hlen' : kvs'.length ≤ 1000 := by
        have e1 := hI'.len
        rw [List.length_map, List.length_map] at e1
        lia
      have Cb := C
      have hIown : ∀ a ∈ dS :: wd :: lf' :: ls', a ≠ I := by
        intro a ha q
        obtain ⟨oo, ho, _⟩ := P'.muts a ha
        exact hIne _ ho q
      have hm1 : ∀ a ∈ [wd], ∃ o', (a, o') ∈ (I, o) :: led' ∧ Mut o' := fun a ha => by rw [List.mem_singleton.mp ha]; exact ⟨_, P1.hW, P1.dc.mut⟩
      walk_at "xc"
      refine plainObj_wpAny_Assign_Attribute ?_ (by with_unfolding_all rfl)
      refine opv fun _ _ => ?_
      refine MethodCall_ ?_
      refine Attribute_any_ ?_
      refine nm_l C (by walk_at "lk") ?_ rfl rfl (by decide)
      refine at_free C P1.hx P1.hS P1.so fun s C => ?_
      refine mr_union C RF.hr ?_
      refine cw_more C (by k_is) ?_
      refine spliced_more ?_
      refine MethodCall_ ?_
      refine Attribute_any_ ?_
      refine nm_l C (by walk_at "lk") ?_ rfl rfl (by decide)
      refine at_waits C P1.hx P1.hS P1.so fun s C => ?_
      refine dm_pop C P1.hW P1.dc ?_
      refine callWith_method1 ?_
      refine spliced_more ?_
      refine nm_l C (by walk_at "lk") ?_ rfl rfl (by decide)
      refine spliced_none ?_
      have C1 := C
      obtain ⟨led2, C, kp2, s2⟩ := C.front P1.hW
      refine d_pop C P1.dc hval hlen' fun oW2 s dc2 C => ?_
      refine spliced_none ?_
      refine ⟨C.Xs, ?_⟩
      have kp2' : Kp [wd] ((I, o) :: led') ((wd, oW2) :: led2) := fun p hp hn => .tail _ (kp2 p hp hn)
      obtain ⟨ls2, hsub, W2⟩ := (P1.ws.kp C1 kp2' hm1 (fun l hl => by rw [List.mem_singleton]; exact (n4 l hl).2.1)).drop_key e
      have nd1 : ls'.Nodup := P1.nd.sublist ((List.sublist_cons_self _ _).trans ((List.sublist_cons_self _ _).trans (List.sublist_cons_self _ _)))
      have P2 := P1.dicted C1 kp2' (.head _) dc2 W2 (nd1.sublist hsub) (fun l hl => n4 l (hsub.subset hl))
      have R22 := R21.kp C1 kp2' hm1 (by rw [List.mem_singleton]; exact (n4 _ hl2m).2.1)
      refine union_v C P2.fr R22 fun r3 l3 rows3 led3 s k3 f3 R3 hm3 C => ?_
      walk_at "op"
      refine nm_l C (by walk_at "lk") ?_ rfl rfl (by decide)
      have P3 := P2.mono k3
      obtain ⟨i3, j3, R3'⟩ := id R3
      have hd3 : ∀ a ∈ dS :: wd :: lf' :: ls2, l3 ≠ a := by
        intro a ha q
        obtain ⟨oo, ho, _⟩ := P2.muts a ha
        exact f3 _ ho q.symm
      have C3 := C
      refine st_free C P3.hx P3.hS P3.so fun oS4 led4 s so4 kp4 hS4 hx4 C => ?_
      have P4 := P3.refreed C3 kp4 hS4 so4 hx4 R3 (hd3 _ (.head _)) (hd3 _ (.tail _ (.head _))) (fun q => hd3 _ (.tail _ (.tail _ (.tail _ q))) rfl)
      walk_at "xn"
      walk_at "xn"
      have hI3 : (I, o) ∈ led3 := k3 _ (kp2' _ (.head _) (by rw [List.mem_singleton]; exact (hIown _ (.tail _ (.head _))).symm))
      have hI4 : (I, o) ∈ led4 := kp4 _ hI3 (by rw [List.mem_singleton]; exact (hIown _ (.head _)).symm)
      have C4 := C
      obtain ⟨led5, C5, kp5, s5⟩ := C.front hI4
      have hl3I : l3 ≠ I := fun q => f3 (I, o) (kp2' _ (.head _) (by rw [List.mem_singleton]; exact (hIown _ (.tail _ (.head _))).symm)) q.symm
      have P5 := P4.kp C4 kp5 (fun a ha => by rw [List.mem_singleton.mp ha]; exact ⟨o, hI4, hIo.mut⟩) (by rw [List.mem_singleton]; exact fun q => hIne _ P'.hx q) (all3 (mt List.mem_singleton.mp (hIown _ (.head _))) (mt List.mem_singleton.mp (hIown _ (.tail _ (.head _)))) (mt List.mem_singleton.mp hl3I) fun a ha => mt List.mem_singleton.mp (hIown _ (.tail _ (.tail _ (.tail _ (hsub.subset ha))))))
      have step : ∀ p ∈ led', p.1 ∉ [dS, wd] → p ∈ led5 := by
        intro p hp hn
        simp only [List.mem_cons, List.not_mem_nil, or_false, not_or] at hn
        refine kp5 _ (kp4 _ (k3 _ (kp2' _ (.tail _ hp) ?_)) ?_) ?_
        · rw [List.mem_singleton]; exact hn.2
        · rw [List.mem_singleton]; exact hn.1
        · rw [List.mem_singleton]; exact hIne p hp
      have hSd : S ≠ dS ∧ S ≠ wd := ⟨fun q => hSf _ P.hS q.symm, fun q => hSf _ P.hW q.symm⟩
      refine kN _ _ led5 C5 ⟨by walk_at "lk", by walk_at "lk", by walk_at "lk", ?_, step _ hS (by simpa using hSd), oS4, r3, oW2, l3, _, ls2, rows3, _, P5, ?_, ?_⟩
      · intro p hp hn
        refine step p (kp p hp hn) fun q => ?_
        simp only [List.mem_cons, List.not_mem_nil, or_false] at q
        rcases q with q | q
        · exact hn (by rw [q]; exact .head _)
        · exact hn (by rw [q]; exact .tail _ (.head _))
      · refine all3 (.inl (.head _)) (.inl (.tail _ (.head _))) ?_ fun a ha => hown _ (.tail _ (.tail _ (.tail _ (hsub.subset ha))))
        by_cases hao : l3 ∈ dS :: wd :: lf :: ls
        · exact .inl hao
        · refine .inr fun p hp q => ?_
          have h1 := kp p hp (q ▸ hao)
          exact f3 _ (kp2' _ (.tail _ h1) (by rw [List.mem_singleton, q]; exact fun e => hao (by rw [e]; exact .tail _ (.head _)))) q
      · refine seti_due hwn hi (by rw [hee]; exact hdue) hI' (fun x => ?_) (by rw [keys_filter, hee]) fun k x => by rw [memW_filter, hee]
        rw [hm3 x, ← memW_at hwn' hj, hje, hee]
    · walk_at "xn"
      walk_at "xn"
      exact kN _ _ led' C ⟨by walk_at "lk", by walk_at "lk", by walk_at "lk", kp, hS, oS', r', oW', lf', kvs', ls', free', ws', P', hown, seti_not hi (by rw [hee]; exact hdue) hI'⟩
  · rintro m' led' s E' ⟨m1, m2, m3, kp, hS, oS', r', oW', lf', kvs', ls', free', ws', P', hown, hI'⟩ C
    walk_at "xn"
    walk_at "xn"
    obtain ⟨q1, q2, q3⟩ := SetI.fin (N := vs.length) hI' (by rw [List.length_map]; lia) fun k x hk => by obtain ⟨rr, h1, _⟩ := hk; exact List.mem_map.mpr ⟨_, h1, rfl⟩
    try walk_at "rt"
    exact kQ _ _ _ _ C (fun C => K free' ws' led' _ ⟨fun p hp hn => kp p (.tail _ hp) hn, _, ⟨_, _, _, _, _, _, _, _, P', rfl⟩, fun a ha => (hown a ha).imp id fun q p hp => q p (.tail _ hp)⟩ q1 q2 q3 C)
end
end Mine
end

section
open PySem PySem.W PySem.Calls PyProof.Rows PyProof.Rows.LCg
namespace Mine
section
variable {prog : Program} {w : World} {c : Cfg} {A : Around} {n : Nat} {m : Loc} {led : Led} {s : Shared} {E : Value → Shared → Prop}
variable {x : Addr} {b mn cur : Int} {dS r wd lf : Addr} {oS oW : Obj} {kvs : List (Int × Value)} {ls : List Addr} {free : Rows} {ws : List (Int × Rows)}
theorem sl_load {Q : Value → Shared → Prop} {ra la : Addr} {rowsA : Rows} (C : Cx w c A (n + 6) m led s) (P : SlP prog w led x b mn cur dS oS r wd oW lf kvs ls free ws) (RA : RgV led ra la rowsA) (hb : 0 ≤ b) (hmn : 0 < mn) (hbm : b + mn ≤ 1000)
    (K : ∀ free' led' s, SlOut prog w led led' x b mn b (dS :: wd :: lf :: ls) free' [] → (∀ x, Mem free' x ↔ (b ≤ x ∧ x < b + mn) ∧ ¬ Mem rowsA x) → Cx w c A (n + 6) m led' s → Q .none s) :
    wpAny (model prog w) A (call (.ref 284) [.ref x, .ref ra]) Q E s := by
  refine enter0 (binds := [(Str.ofString "self", .ref x), (Str.ofString "allocated", .ref ra)]) C (by k_is) (by k_is) (BindsTo.of_eq rfl) (locs rfl) (fun c A E s C Qr kQ => ?_) rfl rfl rfl (by decide)
  walk_at "xc"
  refine plainObj_wpAny_Assign_Attribute ?_ (by with_unfolding_all rfl)
  refine opv fun _ _ => ?_
  refine MethodCall_ ?_
  refine opv fun _ _ => ?_
  refine Call_ ?_
  refine nm_g C (by k_is) ?_ rfl rfl (by decide)
  refine cw_more C (by k_is) ?_
  refine spliced_more ?_
  refine opv fun _ _ => ?_
  refine List_ ?_
  refine spliced_more ?_
  refine opv fun _ _ => ?_
  refine Tuple_ ?_
  refine spliced_more ?_
  refine Attribute_any_ ?_
  refine nm_l C (by walk_at "lk") ?_ rfl rfl (by decide)
  refine at_begin C P.hx P.hS P.so fun t s C => ?_
  refine spliced_more ?_
  refine MethodCall_ ?_
  refine nm_l C (by walk_at "lk") ?_ rfl rfl (by decide)
  refine ms_end C P.hx P.hS P.so ?_
  refine cw_none C (by k_is) ?_
  refine sl_end C P fun t s C => ?_
  refine spliced_none ?_
  refine mk_tup C (Nat.le_of_ble_eq_true rfl) fun T s C => ?_
  walk_at "op"
  refine spliced_none ?_
  refine mk_list C (Nat.le_of_ble_eq_true rfl) fun D s C => ?_
  walk_at "op"
  refine spliced_none ?_
  refine ⟨C.Xs, ?_⟩
  refine new_rg1 C (.head _) (.tail _ (.head _)) hb (by lia) hbm fun r0 l0 rows0 led0 s k0 f0 R0 hm0 C => ?_
  walk_at "op"
  obtain ⟨i0, j0, R0'⟩ := id R0
  have k00 : ∀ p ∈ led, p ∈ led0 := fun p hp => k0 p (.tail _ (.tail _ hp))
  refine mr_without C R0'.hr ?_
  refine cw_more C (by k_is) ?_
  refine spliced_more ?_
  refine nm_l C (by walk_at "lk") ?_ rfl rfl (by decide)
  refine spliced_none ?_
  refine ⟨C.Xs, ?_⟩
  refine without_v C R0 (RA.mono k00) fun r1 l1 rows1 led1 s k1 f1 R1 hm1 C => ?_
  walk_at "op"
  have k11 : ∀ p ∈ led, p ∈ led1 := fun p hp => k1 p (k00 p hp)
  have P1 := P.mono k11
  have hd1 : ∀ a ∈ dS :: wd :: lf :: ls, l1 ≠ a := by
    intro a ha q
    obtain ⟨oo, ho, _⟩ := P.muts a ha
    exact f1 _ (k00 _ ho) q.symm
  have C1 := C
  refine nm_l C (by walk_at "lk") ?_ rfl rfl (by decide)
  refine st_free C P1.hx P1.hS P1.so fun oS2 led2 s so2 kp2 hS2 hx2 C => ?_
  have P2 := P1.refreed C1 kp2 hS2 so2 hx2 R1 (hd1 _ (.head _)) (hd1 _ (.tail _ (.head _))) (fun q => hd1 _ (.tail _ (.tail _ (.tail _ q))) rfl)
  walk_at "xc"
  refine plainObj_wpAny_Assign_Attribute ?_ (by with_unfolding_all rfl)
  refine mk_dict C fun D3 oW3 s dc3 C => ?_
  have P3 := P2.mono (led' := (D3, oW3) :: led2) fun p hp => .tail _ hp
  have hD3 := C.ne
  have C3 := C
  refine nm_l C (by walk_at "lk") ?_ rfl rfl (by decide)
  refine st_waits C P3.hx P3.hS P3.so fun oS4 led4 s so4 kp4 hS4 hx4 C => ?_
  obtain ⟨n1, n2, n3, n4⟩ := P3.nf
  obtain ⟨i2, j2, R2⟩ := id P2.fr
  have hmS := fun a ha => P3.so.muts (dS := dS) a ha _ P3.hS
  have P4 : SlP prog w led4 x b mn cur dS oS4 r1 D3 oW3 l1 [] [] rows1 [] :=
    ⟨hx4, hS4, so4, kp4 _ (.head _) (by rw [List.mem_singleton]; exact fun q => hD3 _ P2.hS q.symm), dc3, P3.fr.kp C3 kp4 hmS (by rw [List.mem_singleton]; exact n2.symm), trivial, by
      simp only [List.nodup_cons, List.mem_cons, not_or, List.not_mem_nil, not_false_eq_true, List.nodup_nil, and_true]
      exact ⟨⟨fun q => hD3 _ P2.hS q, n2⟩, fun q => hD3 _ R2.hl q.symm⟩⟩
  have C4 := C
  walk_at "xc"
  refine plainObj_wpAny_Assign_Attribute ?_ (by with_unfolding_all rfl)
  refine Attribute_any_ ?_
  refine nm_l C (by walk_at "lk") ?_ rfl rfl (by decide)
  refine at_begin C P4.hx P4.hS P4.so fun t s C => ?_
  refine nm_l C (by walk_at "lk") ?_ rfl rfl (by decide)
  refine st_cursor C P4.hx P4.hS P4.so fun oS5 led5 s so5 kp5 hS5 hx5 C => ?_
  have P5 := P4.cursored C4 kp5 hS5 so5 hx5
  walk_at "xn"
  have hkp : Kp (dS :: wd :: lf :: ls) led led5 := fun p hp hn => by
    have hne : p.1 ∉ [dS] := fun q => hn (by rw [List.mem_singleton.mp q]; exact .head _)
    exact kp5 _ (kp4 _ (.tail _ (kp2 _ (k11 p hp) hne)) hne) hne
  try walk_at "rt"
  refine kQ _ _ _ _ C (fun C => K rows1 _ _ ⟨hkp, _, ⟨_, _, _, _, _, _, _, _, P5, rfl⟩, ?_⟩ (fun x => by rw [hm1 x, hm0 x]) C)
  intro a ha
  by_cases hao : a ∈ dS :: wd :: lf :: ls
  · exact .inl hao
  · have hdS : a ≠ dS := fun q => hao (by rw [q]; exact .head _)
    refine .inr fun p hp q => ?_
    simp only [List.mem_cons, List.not_mem_nil, or_false] at ha
    rcases ha with ha | ha | ha
    · exact hdS ha
    · exact hD3 _ (kp2 _ (k11 p hp) (by rw [List.mem_singleton, q]; exact hdS)) (q.trans ha)
    · exact f1 _ (k00 _ hp) (q.trans ha)
end
end Mine
end

section
open PySem PySem.W PySem.Calls PyProof.Rows PyProof.Rows.LCg
namespace Mine
section
variable {prog : Program} {w : World} {c : Cfg} {A : Around} {n : Nat} {m : Loc} {led : Led} {s : Shared} {E : Value → Shared → Prop}
theorem sl_new {Q : Value → Shared → Prop} {b mn : Int} {t1 t2 : Tok} (C : Cx w c A (n + 7) m led s) (hb : 0 ≤ b) (hmn : 0 < mn) (hbm : b + mn ≤ 1000)
    (K : ∀ x own free led' s, (∀ p ∈ led, p ∈ led') → (∀ p ∈ led, p.1 ≠ x) → (∀ a ∈ own, ∀ p ∈ led, p.1 ≠ a) → SlV prog w led' x b mn b own free [] → (∀ y, Mem free y ↔ b ≤ y ∧ y < b + mn) → Cx w c A (n + 7) m led' s → Q (.ref x) s) :
    wpAny (model prog w) A (call (.ref 287) [.int b t1, .int mn t2]) Q E s := by
  have C₀ := C
  refine cls_new C (by k_is) (by k_is) (by k_is) fun x dx s C => ?_
  have hx0 := C.ne
  have hd0 := C.drop.ne
  refine enterI (binds := [(Str.ofString "self", .ref x), (Str.ofString "begin", .int b t1), (Str.ofString "many", .int mn t2)]) C (by k_is) (by k_is) (BindsTo.of_eq rfl) (locs rfl) (fun c A E s C Qr kQ => ?_) rfl rfl rfl (by decide)
  replace C := C.swap
  walk_at "xc"
  refine plainObj_wpAny_Assign_Attribute ?_ (by with_unfolding_all rfl)
  refine nm_l C (by walk_at "lk") ?_ rfl rfl (by decide)
  refine nm_l C (by walk_at "lk") ?_ rfl rfl (by decide)
  refine st_attr C (.head _) (by k_is) (by k_is) (by k_is) (by k_is) rfl (fun _ => Nat.le_of_ble_eq_true rfl) fun h1 k1 s C => ?_
  walk_at "xc"
  refine plainObj_wpAny_Assign_Attribute ?_ (by with_unfolding_all rfl)
  refine nm_l C (by walk_at "lk") ?_ rfl rfl (by decide)
  refine nm_l C (by walk_at "lk") ?_ rfl rfl (by decide)
  refine st_attr C (.head _) (by k_is) (by k_is) (by k_is) (by k_is) rfl (fun _ => Nat.le_of_ble_eq_true rfl) fun h2 k2 s C => ?_
  walk_at "xc"
  refine plainObj_wpAny_Assign_Attribute ?_ (by with_unfolding_all rfl)
  refine opv fun _ _ => ?_
  refine Call_ ?_
  refine nm_g C (by k_is) ?_ rfl rfl (by decide)
  refine cw_more C (by k_is) ?_
  refine spliced_more ?_
  refine opv fun _ _ => ?_
  refine List_ ?_
  refine spliced_more ?_
  refine Tuple_ ?_
  refine spliced_more ?_
  refine nm_l C (by walk_at "lk") ?_ rfl rfl (by decide)
  refine spliced_more ?_
  refine wpAny_BinOp ?_
  refine nm_l C (by walk_at "lk") ?_ rfl rfl (by decide)
  refine nm_l C (by walk_at "lk") ?_ rfl rfl (by decide)
  with_reducible refine a_add C fun t s C => ?_
  refine spliced_none ?_
  refine mk_tup C (Nat.le_of_ble_eq_true rfl) fun T s C => ?_
  refine spliced_none ?_
  refine mk_list C (Nat.le_of_ble_eq_true rfl) fun D s C => ?_
  walk_at "op"
  refine spliced_none ?_
  refine ⟨C.Xs, ?_⟩
  refine new_rg1 C (.head _) (.tail _ (.head _)) hb (by lia) hbm fun r0 l0 rows0 led0 s k0 f0 R0 hm0 C => ?_
  walk_at "op"
  refine nm_l C (by walk_at "lk") ?_ rfl rfl (by decide)
  have hdx0 := k0 _ (.tail _ (.tail _ (.head _)))
  have hxx0 := k0 _ (.tail _ (.tail _ (.tail _ (.head _))))
  have hxd : x ≠ dx := fun q => hx0 _ (.head _) q.symm
  have hl0 : ∀ p ∈ led, p.1 ≠ l0 := fun p hp => f0 p (.tail _ (.tail _ (.tail _ (.tail _ hp))))
  have hl0d : l0 ≠ dx := fun q => f0 _ (.tail _ (.tail _ (.head _))) q.symm
  have C0 := C
  obtain ⟨led1, C, kp1, s1⟩ := C.front hdx0
  have hxx1 := kp1 _ hxx0 (by rw [List.mem_singleton]; exact hxd)
  refine st_attr C hxx1 (by k_is) (by k_is) (by k_is) (by k_is) rfl (fun _ => Nat.le_of_ble_eq_true rfl) fun h3 k3 s C => ?_
  walk_at "xc"
  refine plainObj_wpAny_Assign_Attribute ?_ (by with_unfolding_all rfl)
  refine mk_dict C fun D4 oW4 s dc4 C => ?_
  have hD4 := C.ne
  refine nm_l C (by walk_at "lk") ?_ rfl rfl (by decide)
  replace C := C.swap
  refine st_attr C (.tail _ hxx1) (by k_is) (by k_is) (by k_is) (by k_is) rfl (fun _ => Nat.le_of_ble_eq_true rfl) fun h4 k4 s C => ?_
  walk_at "xc"
  refine plainObj_wpAny_Assign_Attribute ?_ (by with_unfolding_all rfl)
  refine nm_l C (by walk_at "lk") ?_ rfl rfl (by decide)
  refine nm_l C (by walk_at "lk") ?_ rfl rfl (by decide)
  refine st_attr C (.tail _ hxx1) (by k_is) (by k_is) (by k_is) (by k_is) rfl (fun _ => Nat.le_of_ble_eq_true rfl) fun h5 k5 s C => ?_
  walk_at "xn"
  have kq : ∀ p ∈ led, p ∈ led1 := fun p hp => kp1 p (k0 p (.tail _ (.tail _ (.tail _ (.tail _ hp))))) (by rw [List.mem_singleton]; exact hd0 p hp)
  have R1 : RgV led1 r0 l0 rows0 := by
    refine R0.kp C0 kp1 (fun a ha => ?_) (by rw [List.mem_singleton]; exact hl0d)
    rw [List.mem_singleton.mp ha]
    exact ⟨_, hdx0, by
      refine ⟨by simp [dictOf], by simp [dictOf], fun hs tk l k q => ?_⟩
      have h := congrArg (fun o : Obj => match o.data with | .dict es _ => es.size | _ => 0) q
      exact absurd (show (2 : Nat) = 1 from h) (by decide)
      ⟩
  obtain ⟨i1, j1, R1'⟩ := id R1
  try walk_at "rt"
  refine kQ _ _ _ _ C (fun C => ⟨rfl, K x [dx, D4, l0] rows0 _ _ (fun p hp => .tail _ (.tail _ (kq p hp))) (fun p hp => hx0 p (.tail _ hp)) ?_ ⟨dx, _, r0, D4, oW4, l0, [], [], ⟨.tail _ (.tail _ hxx1), .head _, ⟨h1, h2, h3, h4, h5, k1, k2, k3, k4, k5, t1, t2, t1, _, rfl⟩, .tail _ (.head _), dc4, R1.mono fun p hp => .tail _ (.tail _ hp), trivial, ?_⟩, rfl⟩ hm0 (C.unmake C₀)⟩)
  · intro a ha p hp
    simp only [List.mem_cons, List.not_mem_nil, or_false] at ha
    rcases ha with rfl | rfl | rfl
    · exact hd0 p hp
    · exact hD4 p (.tail _ (kq p hp))
    · exact hl0 p hp
  · simp only [List.nodup_cons, List.mem_cons, not_or, List.not_mem_nil, not_false_eq_true, List.nodup_nil, and_true]
    exact ⟨⟨fun q => hD4 _ (.head _) q, fun q => hl0d q.symm⟩, fun q => hD4 _ (.tail _ R1'.hl) q.symm⟩
end
end Mine
end

section
open PySem PySem.W PySem.Calls PyProof.Rows
namespace Mine
noncomputable def RunT {α : Type} (n : Nat) (f : Nat → Nat → Bool) : KasT α → (α → Prop) → Prop
  | .ret a, P => P a
  | .ask i j k, P => i < n ∧ j < n ∧ RunT n f (k (f i j)) P
theorem RunT.mono {α : Type} {n : Nat} {f : Nat → Nat → Bool} {P Q : α → Prop} : ∀ {t : KasT α}, RunT n f t P → (∀ a, P a → Q a) → RunT n f t Q
  | .ret a, h, k => k a h
  | .ask _ _ _, h, k => ⟨h.1, h.2.1, h.2.2.mono k⟩
theorem RunT.bind {α β : Type} {n : Nat} {f : Nat → Nat → Bool} {g : α → KasT β} {Q : β → Prop} : ∀ {t : KasT α}, RunT n f t (fun a => RunT n f (g a) Q) → RunT n f (t.bind g) Q
  | .ret _, h => h
  | .ask _ _ _, h => ⟨h.1, h.2.1, h.2.2.bind⟩
theorem RunT.wp {α : Type} {n : Nat} {f : Nat → Nat → Bool} {P : α → Prop} {s : Shared} {cmp : Nat → Nat → (Bool → Shared → Prop) → Shared → Prop} (hc : ∀ i j C, i < n → j < n → C (f i j) s → cmp i j C s) : ∀ {t : KasT α}, RunT n f t P → t.kasWp cmp (fun a s' => s' = s ∧ P a) s
  | .ret _, h => ⟨rfl, h⟩
  | .ask _ _ _, h => hc _ _ _ h.1 h.2.1 (h.2.2.wp hc)
section
variable {n : Nat} {f : Nat → Nat → Bool}
structure OrdOn (n : Nat) (f : Nat → Nat → Bool) : Prop where
  tr : ∀ i j k, f i j = true → f j k = true → f i k = true
  to : ∀ i j, i < n → j < n → i ≠ j → f i j = false → f j i = true
noncomputable abbrev gp (p : Array Nat) (i : Nat) : Nat := p.getD i 0
structure PM (n : Nat) (p : Array Nat) : Prop where
  perm : p.Perm (List.toArray (List.range n))
theorem PM.size {p : Array Nat} (h : PM n p) : p.size = n := by rw [h.perm.size_eq]; simp
theorem gp_get {p : Array Nat} {i : Nat} (h : i < p.size) : gp p i = p[i] := by simp [gp, Array.getD, h]
theorem PM.lt {p : Array Nat} (h : PM n p) {i : Nat} (hi : i < n) : gp p i < n := by
  have hs := h.size
  rw [gp_get (by lia)]
  have h1 : p[i]'(by omega) ∈ p := Array.getElem_mem _
  have h2 := h.perm.mem_iff.mp h1
  simpa using h2
theorem PM.inj {p : Array Nat} (h : PM n p) {i j : Nat} (hi : i < n) (hj : j < n) (hne : i ≠ j) : gp p i ≠ gp p j := by
  have hs := h.size
  have hn : p.toList.Nodup := ((Array.perm_iff_toList_perm.mp h.perm).nodup_iff).mpr (by simpa using List.nodup_range)
  have pw := List.pairwise_iff_getElem.mp hn
  rw [gp_get (by lia), gp_get (by lia), ← Array.getElem_toList (by rw [Array.length_toList]; omega), ← Array.getElem_toList (by rw [Array.length_toList]; omega)]
  rcases Nat.lt_or_gt_of_ne hne with q | q
  · exact pw i j _ _ q
  · exact fun e => pw j i _ _ q e.symm
theorem gp_congr {p q : Array Nat} {i j : Nat} (h : p[i]? = q[j]?) : gp p i = gp q j := by
  unfold gp
  rw [Array.getD_eq_getD_getElem?, Array.getD_eq_getD_getElem?, h]
noncomputable def SP (f : Nat → Nat → Bool) (p : Array Nat) (m : Nat) : Prop := ∀ i j, i < j → j < m → f (gp p i) (gp p j) = true
noncomputable def DP (f : Nat → Nat → Bool) (p : Array Nat) (m : Nat) : Prop := ∀ i j, i < j → j < m → f (gp p j) (gp p i) = true
theorem SP.succ {p : Array Nat} {m : Nat} (O : OrdOn n f) (h : SP f p m) (hl : 0 < m → f (gp p (m - 1)) (gp p m) = true) : SP f p (m + 1) := by
  intro i j hij hj
  by_cases e : j = m
  · subst e
    by_cases e2 : i = j - 1
    · subst e2; exact hl (by lia)
    · exact O.tr _ _ _ (h i (j - 1) (by lia) (by omega)) (hl (by lia))
  · exact h i j hij (by lia)
theorem DP.succ {p : Array Nat} {m : Nat} (O : OrdOn n f) (h : DP f p m) (hl : 0 < m → f (gp p m) (gp p (m - 1)) = true) : DP f p (m + 1) := by
  intro i j hij hj
  by_cases e : j = m
  · subst e
    by_cases e2 : i = j - 1
    · subst e2; exact hl (by omega)
    · exact O.tr _ _ _ (hl (by omega)) (h i (j - 1) (by omega) (by omega))
  · exact h i j hij (by omega)
theorem run_asc {p : Array Nat} (O : OrdOn n f) (pm : PM n p) {P : Nat → Prop} : ∀ (fuel m : Nat), 1 ≤ m → m + fuel ≤ n → SP f p m →
    (∀ m', m ≤ m' → m' ≤ m + fuel → SP f p m' → (m' = m + fuel ∨ f (gp p m') (gp p (m' - 1)) = true) → P m') → RunT n f (kas_asc p fuel m) P
  | 0, m, _, _, hs, h => h m (Nat.le_refl _) (Nat.le_refl _) hs (.inl rfl)
  | fuel + 1, m, h1, h2, hs, h => by
    show _ < n ∧ _ < n ∧ RunT n f (if _ = true then _ else _) P
    refine ⟨pm.lt (by lia), pm.lt (by omega), ?_⟩
    by_cases c : f (gp p m) (gp p (m - 1)) = true
    · rw [if_pos c]
      exact h m (Nat.le_refl _) (by lia) hs (.inr c)
    · rw [if_neg c]
      have c' := O.to _ _ (pm.lt (i := m) (by omega)) (pm.lt (i := m - 1) (by omega)) (pm.inj (by omega) (by omega) (by omega)) (Bool.eq_false_iff.mpr c)
      exact run_asc O pm fuel (m + 1) (by lia) (by lia) (hs.succ O fun _ => c') fun m' a b d e => h m' (by lia) (by lia) d (e.imp (fun q => by lia) id)
theorem run_desc {p : Array Nat} (O : OrdOn n f) (pm : PM n p) {P : Array Nat × Nat × Nat → Prop} : ∀ (fuel m : Nat), 1 ≤ m → m + fuel ≤ n → DP f p m →
    (∀ m', m ≤ m' → m' ≤ m + fuel → DP f p m' → P (p, m', 0)) → RunT n f (kas_desc fuel p m 0) P
  | 0, m, _, _, hs, h => h m (Nat.le_refl _) (Nat.le_refl _) hs
  | fuel + 1, m, h1, h2, hs, h => by
    show _ < n ∧ _ < n ∧ RunT n f (if _ = true then (if 0 > 0 then _ else _) else _) P
    refine ⟨pm.lt (by omega), pm.lt (by omega), ?_⟩
    by_cases c : f (gp p m) (gp p (m - 1)) = true
    · rw [if_pos c, if_neg (by lia)]
      exact run_desc O pm fuel (m + 1) (by omega) (by omega) (hs.succ O fun _ => c) fun m' a b d => h m' (by omega) (by omega) d
    · rw [if_neg c]
      have c' := O.to _ _ (pm.lt (i := m) (by omega)) (pm.lt (i := m - 1) (by omega)) (pm.inj (by omega) (by omega) (by omega)) (Bool.eq_false_iff.mpr c)
      refine ⟨pm.lt (by omega), pm.lt (by omega), ?_⟩
      show RunT n f (if f (gp p (m - 1)) (gp p m) = true then _ else _) P
      rw [if_pos c']
      exact h m (Nat.le_refl _) (by omega) hs
theorem PM.rev {p : Array Nat} (h : PM n p) (i j : Nat) : PM n (kas_rev p i j) := ⟨(mirror_perm _ _ _ _).trans h.perm⟩
theorem gp_rev {p : Array Nat} {m k : Nat} (hm : m ≤ p.size) (hk : k < m) : gp (kas_rev p 0 m) k = gp p (m - 1 - k) := by
  refine gp_congr ?_
  unfold kas_rev
  rw [getElem?_mirror_all hm, if_pos ⟨Nat.zero_le _, hk⟩, Nat.zero_add]
theorem run_count {p : Array Nat} (O : OrdOn n f) (pm : PM n p) (hn : 2 ≤ n) {P : Nat × Array Nat → Prop} (h : ∀ m q, 1 ≤ m → m ≤ n → PM n q → SP f q m → P (m, q)) : RunT n f (kas_count n p) P := by
  unfold kas_count
  refine RunT.bind (run_asc O pm (n - 1) 1 (Nat.le_refl _) (by omega) (fun i j hij hj => by omega) fun m' h1 h2 hs hl => ?_)
  by_cases e : m' = n
  · rw [if_pos (by simpa using e)]
    subst e
    exact h _ _ h1 (Nat.le_refl _) pm hs
  · rw [if_neg (by simpa using e)]
    by_cases h3 : m' > 1
    · rw [if_pos h3]
      refine ⟨pm.lt (by lia), pm.lt (by lia), ?_⟩
      show RunT n f (if f (gp p 0) (gp p (m' - 1)) = true then _ else _) P
      rw [if_pos (hs 0 (m' - 1) (by omega) (by omega))]
      exact h _ _ h1 (by lia) pm hs
    · rw [if_neg h3]
      have e1 : m' = 1 := by lia
      subst e1
      have hd : f (gp p 1) (gp p 0) = true := by
        rcases hl with q | q
        · omega
        · exact q
      unfold kas_descPart
      refine RunT.bind (run_desc O pm (n - (1 + 1)) 2 (by lia) (by omega) (fun i j hij hj => ?_) fun m2 h4 h5 hD => ?_)
      · have : i = 0 ∧ j = 1 := by lia
        rw [this.1, this.2]; exact hd
      · rw [if_neg (by simp)]
        unfold kas_tail3
        have hs2 : SP f (kas_rev p 0 m2) m2 := by
          intro i j hij hj
          have hz := pm.size
          rw [gp_rev (by lia) (by lia), gp_rev (by omega) hj]
          exact hD _ _ (by omega) (by omega)
        refine RunT.bind (run_asc O (pm.rev 0 m2) (n - m2) m2 (by lia) (by lia) hs2 fun m3 h6 h7 hs3 _ => ?_)
        exact h _ _ (by lia) (by lia) (pm.rev 0 m2) hs3
theorem run_place {p : Array Nat} (O : OrdOn n f) (pm : PM n p) {k : Nat} (hk : k < n) {P : Nat → Prop}
    (h : ∀ l, l ≤ k → (∀ i, i < l → f (gp p i) (gp p k) = true) → (∀ i, l ≤ i → i < k → f (gp p k) (gp p i) = true) → P l) (hs : SP f p k) : ∀ (fuel l r : Nat), r - l ≤ fuel → l ≤ r → r ≤ k →
    (∀ i, i < l → f (gp p i) (gp p k) = true) → (∀ i, r ≤ i → i < k → f (gp p k) (gp p i) = true) → RunT n f (kas_place p k fuel l r) P
  | 0, l, r, h1, h2, h3, h4, h5 => by
    have : l = r := by lia
    subst this
    exact h l h3 h4 h5
  | fuel + 1, l, r, h1, h2, h3, h4, h5 => by
    show RunT n f (if l ≥ r then _ else _) P
    by_cases c : l ≥ r
    · rw [if_pos c]
      have : l = r := by lia
      subst this
      exact h l h3 h4 h5
    · rw [if_neg c]
      refine ⟨pm.lt hk, pm.lt (by lia), ?_⟩
      show RunT n f (if f (gp p k) (gp p ((l + r) / 2)) = true then _ else _) P
      by_cases c2 : f (gp p k) (gp p ((l + r) / 2)) = true
      · rw [if_pos c2]
        refine run_place O pm hk h hs fuel l ((l + r) / 2) (by omega) (by lia) (by lia) h4 fun i hi hik => ?_
        by_cases e : i = (l + r) / 2
        · rw [e]; exact c2
        · exact O.tr _ _ _ c2 (hs _ _ (by lia) hik)
      · rw [if_neg c2]
        have c' := O.to _ _ (pm.lt (i := k) hk) (pm.lt (i := (l + r) / 2) (by omega)) (pm.inj hk (by omega) (by lia)) (Bool.eq_false_iff.mpr c2)
        refine run_place O pm hk h hs fuel ((l + r) / 2 + 1) r (by omega) (by lia) h3 (fun i hi => ?_) h5
        by_cases e : i = (l + r) / 2
        · rw [e]; exact c'
        · exact O.tr _ _ _ (hs _ _ (by lia) (by lia)) c'
theorem run_bin (O : OrdOn n f) : ∀ (fuel : Nat) (p : Array Nat) (k : Nat), 1 ≤ k → k + fuel = n → PM n p → SP f p k → RunT n f (kas_bin fuel p k) (fun q => PM n q ∧ SP f q n)
  | 0, p, k, _, h2, pm, hs => by
    have : k = n := by lia
    subst this
    exact ⟨pm, hs⟩
  | fuel + 1, p, k, h1, h2, pm, hs => by
    unfold kas_bin
    have hz := pm.size
    refine RunT.bind (run_place O pm (k := k) (by lia) (fun l hl a b => ?_) hs k 0 k (by lia) (by lia) (Nat.le_refl _) (fun _ q => absurd q (Nat.not_lt_zero _)) (fun i q1 q2 => by lia))
    refine run_bin O fuel _ (k + 1) (by lia) (by lia) ⟨(bubble_perm _ _ _).trans pm.perm⟩ ?_
    have g : ∀ i, gp (bubble p k (k - l)) i = if i = l then gp p k else if l < i ∧ i ≤ k then gp p (i - 1) else gp p i := by
      intro i
      have e := getElem?_bubble (xs := p) (src := k) (by lia) (k - l) (by lia) i
      rw [show k - (k - l) = l by lia] at e
      split
      · rename_i q; rw [if_pos q] at e; exact gp_congr e
      · rename_i q; rw [if_neg q] at e
        split
        · rename_i q2; rw [if_pos q2] at e; exact gp_congr e
        · rename_i q2; rw [if_neg q2] at e; exact gp_congr e
    intro i j hij hj
    rw [g i, g j]
    by_cases c1 : i = l
    · rw [if_pos c1, if_neg (by lia), if_pos (by lia)]
      exact b _ (by lia) (by lia)
    · rw [if_neg c1]
      by_cases c2 : j = l
      · rw [if_neg (by lia), if_pos c2]
        exact a _ (by lia)
      · rw [if_neg c2]
        by_cases c3 : l < i
        · rw [if_pos ⟨c3, by lia⟩, if_pos ⟨by lia, by lia⟩]
          exact hs _ _ (by omega) (by lia)
        · rw [if_neg (by lia)]
          by_cases c4 : l < j
          · rw [if_pos ⟨c4, by omega⟩]
            exact hs _ _ (by lia) (by omega)
          · rw [if_neg (by lia)]
            exact hs _ _ hij (by lia)
theorem run_sort (O : OrdOn n f) (hn : 2 ≤ n) : RunT n f (kas_sort n) (fun q => PM n q ∧ SP f q n) := by
  unfold kas_sort
  refine RunT.bind (run_count O ⟨Array.Perm.refl _⟩ hn fun m q h1 h2 pm hs => ?_)
  by_cases c : m < n
  · rw [if_pos c, Nat.max_eq_left h1]
    exact run_bin O _ _ _ h1 (by lia) pm hs
  · rw [if_neg c]
    have : m = n := by lia
    subst this
    exact ⟨pm, hs⟩
end
end Mine
end

section
open PySem PySem.W PySem.Calls PyProof.Rows PyProof.Rows.LCg
namespace Mine
section
variable {prog : Program} {w : World} {c : Cfg} {A : Around} {n : Nat} {m : Loc} {led : Led} {s : Shared} {E : Value → Shared → Prop}
theorem key_lt {t1 t2 : Addr} {a b a' b' : Int} {k1 k2 k3 k4 : Tok} {j1 j2 : Nat} {Q : Bool → Shared → Prop} (h1 : s.heap.get? t1 = some (tupO [.int a k1, .int b k2] j1)) (h2 : s.heap.get? t2 = some (tupO [.int a' k3, .int b' k4] j2))
    (h : Q (lex (a, b) (a', b')) s) : wpAny (model prog w) A (keyLt' (tuples' true) (.ref t1) (.ref t2)) Q E s := by
  refine kat_lt h1 rfl h2 rfl ?_
  show KatLex prog w A true (decide (2 < 2)) Q [(.int a k1, .int a' k3), (.int b k2, .int b' k4)] 0 s
  refine kat_cons (wpAny_eqBool_int ?_)
  by_cases q : a = a'
  · rw [show (a == a') = true from beq_iff_eq.mpr q]
    refine kat_yes (kat_cons (wpAny_eqBool_int ?_))
    by_cases q2 : b = b'
    · rw [show (b == b') = true from beq_iff_eq.mpr q2]
      refine kat_yes (kat_nil ?_)
      have : lex (a, b) (a', b') = false := by unfold lex; rw [decide_eq_false]; rintro (z | ⟨_, z⟩) <;> simp_all
      rw [this] at h
      exact h
    · rw [show (b == b') = false from beq_false_of_ne q2]
      refine kat_no (kat_one _ _ (lt_int ?_))
      have : lex (a, b) (a', b') = decide (b < b') := by unfold lex; simp [q]
      rw [this] at h
      exact h
  · rw [show (a == a') = false from beq_false_of_ne q]
    refine kat_no ?_
    refine oneLt_int ?_
    have : lex (a, b) (a', b') = decide (a < a') := by unfold lex; simp [q]
    rw [this] at h
    exact h
theorem lex_ord {ps : Rows} (hn : ps.Nodup) : OrdOn ps.length (fun i j => lex (ps.getD i (0, 0)) (ps.getD j (0, 0))) := by
  refine ⟨fun i j k h1 h2 => lex_tt h1 h2, fun i j hi hj hne h => lex_to (fun e => ?_) h⟩
  rw [List.getD_eq_getElem?_getD, List.getD_eq_getElem?_getD, List.getElem?_eq_getElem hi, List.getElem?_eq_getElem hj] at e
  exact hne (nodup_get hn hi hj e)
theorem RowsV.kat : ∀ {vs : List Value} {ps : Rows}, (∀ p ∈ led, s.heap.get? p.1 = some p.2) → RowsV led vs ps → ∃ fs : List Value, KatTups s.heap vs fs ∧ fs.length = vs.length ∧ ∀ v ∈ fs, ∃ i t, v = Value.int i t
  | [], [], _, _ => ⟨[], trivial, rfl, fun _ h => (nomatch h)⟩
  | v :: vs, p :: ps, hg, h => by
    obtain ⟨fs, h1, h2, h3⟩ := RowsV.kat hg h.2
    obtain ⟨t, k1, k2, j, rfl, hm⟩ := h.1
    refine ⟨.int p.1 k1 :: fs, KatTups.cons (hg _ hm) rfl rfl rfl h1, congrArg (· + 1) h2, fun v hv => ?_⟩
    rcases List.mem_cons.mp hv with rfl | hv
    · exact ⟨_, _, rfl⟩
    · exact h3 v hv
theorem sort_rows {l : Addr} {vs : List Value} {ps : Rows} {k : Nat} {Q : Value → Shared → Prop} (C : Cx w c A n m led s) (hm : (l, lstO vs k) ∈ led) (hv : RowsV led vs ps) (hn : ps.Nodup) (h2 : 2 ≤ ps.length) (h64 : ps.length < 64)
    (K : ∀ D vs' j s v z, vs'[0]? = some v → RowIs led v z → z ∈ ps → (∀ z' ∈ ps, lex z' z = false) → Cx w c A n m ((D, lstO vs' j) :: led) s → Q (.ref D) s) :
    wpAny (model prog w) A (call (.builtin "sorted") [.ref l]) Q E s := by
  have hlen := hv.len
  refine kat_sorted C.F C.N (C.lst hm) (by lia) (by lia) fun D e1 h' F' N' l' => ?_
  have hg : ∀ p ∈ led, h'.get? p.1 = some p.2 := fun p hp => (N' p (.tail _ hp)).1
  obtain ⟨fs, t1, t2, t3⟩ := RowsV.kat (s := { s with heap := h' }) hg hv
  refine kat_kind (T := .type "int") t1 (by lia) (fun v hv => ?_) rfl ?_
  · obtain ⟨i, t, rfl⟩ := t3 v hv
    exact Looks.of_pure rfl
  show (kas_sort vs.length).kasWp (kas_ask prog w A.in1.in1 (tuples' true) vs) _ _
  rw [hlen]
  have run := (run_sort (lex_ord hn) h2).wp (s := { s with heap := h' }) (cmp := kas_ask prog w A.in1.in1 (tuples' true) vs) (fun i j C' hi hj hC => by
    obtain ⟨v1, e1, a1, b1, c1, d1, rfl, m1⟩ := hv.get i hi
    obtain ⟨v2, e2, a2, b2, c2, d2, rfl, m2⟩ := hv.get j hj
    unfold kas_ask
    rw [List.getD_eq_getElem?_getD, List.getD_eq_getElem?_getD, e1, e2]
    refine key_lt (hg _ m1) (hg _ m2) ?_
    rw [List.getD_eq_getElem?_getD, List.getD_eq_getElem?_getD, List.getElem?_eq_getElem hi, List.getElem?_eq_getElem hj] at hC
    exact hC)
  rw [kat_ask_eq rfl] at run ⊢
  refine kas_wp_mono run fun p s'' hp => ?_
  obtain ⟨rfl, pm, sp⟩ := hp
  refine KasFin.intro F' N' (.head fun p hp => Nat.ne_of_lt (l' p hp)) fun h2' c' F2 N2 => ?_
  have hps := pm.size
  have h0 := pm.lt (i := 0) (by lia)
  obtain ⟨v0, e0, R0⟩ := hv.get _ h0
  refine K D _ c' _ v0 (ps[gp p 0]'h0) ?_ R0 (List.getElem_mem _) (fun z' hz' => ?_) (C.of_news F2 N2 l')
  · rw [List.getElem?_map, Array.getElem?_toList, Array.getElem?_eq_getElem (by lia), Option.map_some, ← gp_get (by omega), List.getD_eq_getElem?_getD, e0]
    rfl
  · obtain ⟨i, hi, rfl⟩ := List.getElem_of_mem hz'
    have hiM : i ∈ p := pm.perm.mem_iff.mpr (by simpa using hi)
    obtain ⟨j, hj, ej⟩ := Array.getElem_of_mem hiM
    by_cases e : j = 0
    · subst e
      have : gp p 0 = i := by rw [gp_get hj]; exact ej
      subst this
      exact lex_self _
    · have := sp 0 j (by lia) (by lia)
      rw [gp_get hj, ej] at this
      have h3 : lex (ps[gp p 0]'h0) ps[i] = true := by
        dsimp only at this
        rw [List.getD_eq_getElem?_getD, List.getD_eq_getElem?_getD, List.getElem?_eq_getElem hi, List.getElem?_eq_getElem h0] at this
        exact this
      exact lex_asy h3
theorem sort_one {l : Addr} {v : Value} {k : Nat} {Q : Value → Shared → Prop} (C : Cx w c A n m led s) (hm : (l, lstO [v] k) ∈ led)
    (K : ∀ D j s, Cx w c A n m ((D, lstO [v] j) :: led) s → Q (.ref D) s) : wpAny (model prog w) A (call (.builtin "sorted") [.ref l]) Q E s := by
  have hl := C.lst hm
  refine Calls.call_function_entry kind_sorted plain_sorted entry_sorted (args_sorted1 _) ?_
  unfold Builtin.«sorted»
  refine wpAny_bind (m := checkCount "sorted" 1 1 _) (wpAny_pure ?_)
  refine wpAny_bind (collect_list hl ?_ (by rw [sizeLine_eq]; simp))
  refine wpAny_bind (wpAny_newList ?_ (by rw [sizeLine_eq]; simp))
  generalize hh1 : (s.heap.push (seqObj "list" #[] 0)).update s.heap.objs.size (Obj.mapSeq (· ++ [v].toArray)) = h1
  have hsz : h1.objs.size = s.heap.objs.size + 1 := by rw [← hh1, Heap.size_update, size_push']
  have keep1 : ∀ b o, s.heap.get? b = some o → h1.get? b = some o := fun b o q => by
    have hlt : b < s.heap.objs.size := Heap.lt_size q
    rw [← hh1, Heap.get?_update_ne _ _ _ _ (Nat.ne_of_lt hlt), Heap.get?_push_ne _ _ _ (Nat.ne_of_lt hlt)]
    exact q
  show wpAny (model prog w) A.in1 _ _ E { s with heap := h1.push (seqObj "list" #[v] 0) }
  dsimp only
  have hoL : (h1.push (seqObj "list" #[v] 0)).get? h1.objs.size = some (seqObj "list" #[v] 0) := Heap.get?_push_size _ rfl
  have keep2 : ∀ b o, s.heap.get? b = some o → (h1.push (seqObj "list" #[v] 0)).get? b = some o := fun b o q => Heap.get?_push_of_some _ (keep1 b o q)
  have hDl : ∀ p ∈ led, p.1 < h1.objs.size := fun p hp => by rw [hsz]; exact Nat.lt_succ_of_lt (C.lt p hp)
  have hL : c.L < s.heap.objs.size := C.F.ns.lt
  have hDL : h1.objs.size ≠ c.L := by rw [hsz]; exact Nat.ne_of_gt (Nat.lt_succ_of_lt hL)
  have hD0 : c.h₀.get? h1.objs.size = none := Heap.get?_none_of_le (Nat.le_trans C.F.above (by rw [hsz]; exact Nat.le_succ_of_le (Nat.le_of_lt hL)))
  have F2 : Fr c.h₀ c.L (h1.push (seqObj "list" #[v] 0)) m := C.F.kept keep2
  have N2 : News c.h₀ c.L (h1.push (seqObj "list" #[v] 0)) led := C.N.grown keep2
  generalize hD : h1.objs.size = D at *
  generalize h1.push (seqObj "list" #[v] 0) = h2 at *
  refine wpAny_bind (wpAny_holding (wpAny_call_entry slot_list_sort ⟨_, hoL, rfl⟩ entry_list_sort ?_ (args_list_sort _)))
  have s1 := Heap.SameBut.update h2 D (Obj.mapSeq fun _ => (#[] : Array Value))
  obtain ⟨e1, ho1⟩ : ∃ e1, (h2.update D (Obj.mapSeq fun _ => (#[] : Array Value))).get? D = some (seqObj "list" #[] e1) := ⟨_, get?_update_seq hoL fun _ => #[]⟩
  have F3 := kas_fr F2 s1 hDL hD0
  have N3 := kas_news N2 s1 (fun p hp => Nat.ne_of_lt (hDl p hp))
  rw [list_sort_plain]
  refine wpAny_bind (listItems_at hoL rfl ?_)
  refine wpAny_bind (listUpdate_at hoL rfl ?_ (by rw [sizeLine_eq]; simp) (Nat.zero_le _))
  refine wpAny_bind (seqEpoch_at ho1 rfl ?_)
  refine wpAny_bind (wpAny_newTuple ?_ (by rw [sizeLine_eq]; simp))
  refine wpAny_bind (wpAny_newList ?_ (Nat.zero_le _))
  refine wpAny_holding ?_
  generalize h2.update D (Obj.mapSeq fun _ => (#[] : Array Value)) = h3 at *
  have F4 := (F3.push (seqObj "tuple" #[v] 0)).push (seqObj "list" #[] 0)
  have N4 : News c.h₀ c.L ((h3.push (seqObj "tuple" #[v] 0)).push (seqObj "list" #[] 0)) led := N3.grown fun b x e => Heap.get?_push_of_some _ (Heap.get?_push_of_some _ e)
  have ho4 : ((h3.push (seqObj "tuple" #[v] 0)).push (seqObj "list" #[] 0)).get? D = some (seqObj "list" #[] e1) := Heap.get?_push_of_some _ (Heap.get?_push_of_some _ ho1)
  show wpAny (model prog w) _ _ _ E { s with heap := (h3.push (seqObj "tuple" #[v] 0)).push (seqObj "list" #[] 0) }
  dsimp only
  generalize (h3.push (seqObj "tuple" #[v] 0)).push (seqObj "list" #[] 0) = h4 at *
  rw [if_pos (by simp), if_pos (by simp)]
  refine wpAny_bind (wpAny_pure ?_)
  rw [StateT.run_pure]
  refine wpAny_bind (wpAny_pure ?_)
  dsimp only
  refine wpAny_bind (seqEpoch_at ho4 rfl ?_)
  refine wpAny_bind (listUpdate_at ho4 rfl ?_ (Nat.zero_le _) (by rw [sizeLine_eq]; simp [arrOf]))
  have s2 := Heap.SameBut.update h4 D (Obj.mapSeq fun _ => (#[v] : Array Value))
  obtain ⟨c2, hc2⟩ : ∃ c2, (h4.update D (Obj.mapSeq fun _ => (#[v] : Array Value))).get? D = some (seqObj "list" #[v] c2) := ⟨_, get?_update_seq ho4 fun _ => #[v]⟩
  have F5 := kas_fr F4 s2 hDL hD0
  have N5 := kas_news N4 s2 (fun p hp => Nat.ne_of_lt (hDl p hp))
  simp only [bne_self_eq_false, Bool.false_eq_true, if_false]
  refine wpAny_pure ⟨_, rfl, wpAny_pure ⟨_, rfl, ?_⟩⟩
  have e : (arrOf (SortSt.mk' general' ((#[v] : Array Value).zip #[v]) #[] 7 none)).map (fun x => x.2) = #[v] := by
    show ((#[v] : Array Value).zip #[v]).map (fun x => x.2) = #[v]
    simp
  rw [e]
  refine K D c2 _ (C.of_news (s' := { s with heap := h4.update D (Obj.mapSeq fun _ => (#[v] : Array Value)) }) F5 (fun p hp => ?_) hDl)
  rcases List.mem_cons.mp hp with rfl | hp
  · exact ⟨hc2, hDL, hD0⟩
  · exact N5 p hp
end
end Mine
end

section
open PySem PySem.W PySem.Calls PyProof.Rows PyProof.Rows.LCg
namespace Mine
section
variable {prog : Program} {w : World} {c : Cfg} {A : Around} {n : Nat} {m : Loc} {led : Led} {s : Shared} {E : Value → Shared → Prop}
theorem a_neg {a : Int} {t : Tok} {Q : Value → Shared → Prop} (C : Cx w c A n m led s) (h : ∀ t s, Cx w c A n m led s → Q (.int (-a) t) s) : wpAny (model prog w) A (unaryOp .USub (.int a t)) Q E s := PyProof.Rows.neg_int (h _ _ C.same)
theorem it_last {value slice : PySem.Expr} {l : Addr} {xs : List Value} {k : Nat} {u : Tok} {x : Value} {Q : Value → Shared → Prop} (C : Cx w c A n m led s) (hm : (l, lstO (xs ++ [x]) k) ∈ led)
    (h : Q x s) (hs : subscripted slice false (.ref l) (.int (-1) u) = operate [.ref l, .int (-1) u] (getItem (.ref l) (.int (-1) u))) : wpAny (model prog w) A (subscriptTail value slice (.ref l) (.int (-1) u)) Q E s :=
  tail_any (C.lst hm).typeIs slot_list_getitem.lookup (wpAny_getItem_list_neg (C.lst hm) (by decide) (by rw [List.size_toArray, List.length_append, List.length_singleton]; lia) (by decide)
    (by rw [List.size_toArray, List.length_append, List.length_singleton, show (-1 + ((xs.length + 1 : Nat) : Int)).toNat = xs.length by lia]; simp) h) hs
theorem set_last {l : Addr} {xs : List Value} {k : Nat} {u : Tok} {x v : Value} {Q : Unit → Shared → Prop} (C : Cx w c A n m ((l, lstO (xs ++ [x]) k) :: led) s)
    (h : ∀ j s, Cx w c A n m ((l, lstO (xs ++ [v]) j) :: led) s → Q () s) : wpAny (model prog w) A (setItem (.ref l) (.int (-1) u) v) Q E s := by
  have hl := C.lst (.head _)
  have ho := C.get (.head _)
  have hd : (lstO (xs ++ [x]) k).data = .seq (xs ++ [x]).toArray k := rfl
  unfold setItem
  try with_reducible refine wpAny_holding ?_
  first | refine wpAny_bind (wpAny_pure ?_) | skip
  refine wpAny_bind (wpAny_sequenceKey hl.typeIs (by decide) ?_)
  refine wpAny_bind (wpAny_callSpecial?_slot (name := Str.ofString "__setitem__") hl.typeIs slot_list_setitem
    (wpAny_call_entry slot_list_setitem hl.typeIs entry_list_setitem ?_ (args_list_setitem _ _ _)))
  show wpAny _ _ (Builtin.List.listSubscript? (.int (-1) u) >>= _) _ _ s
  refine wpAny_bind (wpAny_listSubscript_int (fitsIndex_neg (by decide) (by decide)) ?_)
  have hidx : seqIndex? (-1) (xs ++ [x]).toArray.size = some xs.length := by
    have e := seqIndex_neg (k := -1) (n := (xs ++ [x]).toArray.size) (by decide) (by rw [List.size_toArray, List.length_append, List.length_singleton]; omega)
    rw [e, List.size_toArray, List.length_append, List.length_singleton, show (-1 + ((xs.length + 1 : Nat) : Int)).toNat = xs.length by omega]
  have hx : (xs ++ [x]).toArray[xs.length]? = some x := by simp
  show wpAny _ _ ((Builtin.List.listItems (.ref l) >>= fun ys => pure ((seqIndex? (Int.negSucc 0) ys.size).bind fun i => ys[i]?.map (i, ·))) >>= _) _ _ s
  refine wpAny_bind (wpAny_bind ?_)
  show wpAny _ _ (seqItems? (.ref l) >>= _) _ _ s
  refine wpAny_bind (wpAny_seqItems ho hd (wpAny_pure (wpAny_pure ?_)))
  rw [show (Int.negSucc 0) = (-1 : Int) from rfl, hidx]
  simp only [Option.bind_some, hx, Option.map_some]
  obtain ⟨n', hd'⟩ := Obj.data_mapSeq hd (·.setIfInBounds xs.length v)
  have hset : (xs ++ [x]).toArray.setIfInBounds xs.length v = (xs ++ [v]).toArray := by simp
  have hfin : (s.heap.update l (Obj.mapSeq (·.setIfInBounds xs.length v))).get? l = some (lstO (xs ++ [v]) n') := by
    rw [Heap.get?_update_self _ ho (Obj.isFreed_of_seq hd')]
    obtain ⟨j, e⟩ := mapSeq_lst (·.setIfInBounds xs.length v) (xs ++ [x]) k
    rw [e] at hd' ⊢
    have : (Data.seq ((xs ++ [x]).toArray.setIfInBounds xs.length v).toList.toArray j) = Data.seq ((xs ++ [x]).toArray.setIfInBounds xs.length v) n' := hd'
    cases this
    rw [hset]
  show wpAny _ _ (setSeqItemAt l xs.length v >>= _) _ _ s
  refine wpAny_bind (wpAny_setSeqItemAt ho hd ?_)
  have R := h n' { s with heap := s.heap.update l (Obj.mapSeq (·.setIfInBounds xs.length v)) } (C.set (Heap.SameBut.update ..) hfin)
  first
    | exact wpAny_bind (wpAny_pure (wpAny_pure ⟨.none, rfl, wpAny_pure R⟩))
    | exact wpAny_pure ⟨.none, rfl, wpAny_pure R⟩
end
end Mine
end

section
open PySem PySem.W PySem.Calls PyProof.Rows PyProof.Rows.LCg
namespace Mine
theorem valueAt_stored {K : Type} [DecidableEq K] {kvs : List (K × Value)} {k k' : K} {v : Value} : valueAt (stored kvs k v) k' = if k' = k then some v else valueAt kvs k' := by
  unfold stored
  by_cases h : (kvs.any fun kv => kv.1 = k) = true
  · rw [if_pos h]
    induction kvs with
    | nil => simp at h
    | cons p r ih =>
      unfold valueAt at ih ⊢
      rw [List.map_cons]
      by_cases e : p.1 = k
      · rw [if_pos e]
        by_cases e2 : k' = k
        · rw [if_pos e2, List.find?_cons_of_pos (by simp [e, e2])]; rfl
        · rw [if_neg e2, List.find?_cons_of_neg (by simp [e]; exact fun q => e2 q.symm), List.find?_cons_of_neg (by simp [e]; exact fun q => e2 q.symm)]
          by_cases h2 : (r.any fun kv => kv.1 = k) = true
          · have := ih h2
            rw [if_neg e2] at this
            exact this
          · congr 1
            have : List.map (fun kv => if kv.1 = k then (kv.1, v) else kv) r = r := by
              rw [List.map_congr_left (g := id), List.map_id]
              intro q hq
              rw [if_neg]; rfl
              intro e3
              exact h2 (List.any_eq_true.mpr ⟨q, hq, decide_eq_true e3⟩)
            rw [this]
      · rw [if_neg e]
        have h2 : (r.any fun kv => kv.1 = k) = true := by simpa [e] using h
        by_cases e3 : p.1 = k'
        · rw [List.find?_cons_of_pos (by simp [e3]), List.find?_cons_of_pos (by simp [e3]), if_neg (fun q => e (e3.trans q))]
        · rw [List.find?_cons_of_neg (by simp [e3]), List.find?_cons_of_neg (by simp [e3])]
          exact ih h2
  · rw [if_neg h]
    unfold valueAt
    rw [List.find?_append]
    by_cases e2 : k' = k
    · subst e2
      have : kvs.find? (fun kv => kv.1 = k') = none := by
        rw [List.find?_eq_none]
        intro q hq
        exact fun e3 => h (List.any_eq_true.mpr ⟨q, hq, e3⟩)
      rw [if_pos rfl, this]
      simp
    · rw [if_neg e2]
      have e3 : (List.find? (fun kv : K × Value => decide (kv.1 = k')) [(k, v)]) = none := by
        rw [List.find?_cons_of_neg (by simp; exact fun q => e2 q.symm)]; rfl
      rw [e3, Option.or_none]
theorem stored_len {K : Type} [DecidableEq K] {kvs : List (K × Value)} {k : K} {v : Value} (h : (valueAt kvs k).isSome = true) : (stored kvs k v).length = kvs.length := by
  unfold stored
  rw [if_pos (by rw [← valueAt_isSome_eq_any]; exact h), List.length_map]
noncomputable def SetsV (w : World) (led : Led) : List (Int × Value) → List (Int × List Int) → Prop
  | [], [] => True
  | kv :: kvs, p :: ss => kv.1 = p.1 ∧ (∃ a o, kv.2 = .ref a ∧ (a, o) ∈ led ∧ SetM w o p.2) ∧ SetsV w led kvs ss
  | _, _ => False
namespace SetsV
variable {w : World} {led led' : Led}
theorem mono (hs : ∀ p ∈ led, p ∈ led') : ∀ {kvs : List (Int × Value)} {ss : List (Int × List Int)}, SetsV w led kvs ss → SetsV w led' kvs ss
  | [], [], _ => trivial
  | _ :: _, _ :: _, h => ⟨h.1, let ⟨a, o, e, hm, S⟩ := h.2.1; ⟨a, o, e, hs _ hm, S⟩, h.2.2.mono hs⟩
theorem keys : ∀ {kvs : List (Int × Value)} {ss : List (Int × List Int)}, SetsV w led kvs ss → kvs.map (·.1) = ss.map (·.1)
  | [], [], _ => rfl
  | _ :: _, _ :: _, h => by rw [List.map_cons, List.map_cons, h.1, h.2.2.keys]
theorem len {kvs : List (Int × Value)} {ss : List (Int × List Int)} (h : SetsV w led kvs ss) : kvs.length = ss.length := by
  have := congrArg List.length h.keys
  simpa using this
theorem at2 : ∀ {kvs : List (Int × Value)} {ss : List (Int × List Int)}, SetsV w led kvs ss → ∀ (i : Nat) (hi : i < ss.length), ∃ a o, kvs[i]? = some ((ss[i]).1, .ref a) ∧ (a, o) ∈ led ∧ SetM w o (ss[i]).2
  | [], [], _, i, hi => absurd hi (Nat.not_lt_zero _)
  | kv :: _, p :: _, h, 0, _ => by
    obtain ⟨a, o, e, hm, S⟩ := h.2.1
    exact ⟨a, o, by show some kv = some (p.1, Value.ref a); rw [← h.1, ← e], hm, S⟩
  | _ :: _, _ :: _, h, i + 1, hi => h.2.2.at2 i (Nat.lt_of_succ_lt_succ hi)
theorem kp {as : List Addr} (h : Kp as led led') : ∀ {kvs : List (Int × Value)} {ss : List (Int × List Int)}, SetsV w led kvs ss → (∀ a o ns, (a, o) ∈ led → SetM w o ns → a ∉ as) → SetsV w led' kvs ss
  | [], [], _, _ => trivial
  | _ :: _, _ :: _, g, hn => ⟨g.1, let ⟨a, o, e, hm, S⟩ := g.2.1; ⟨a, o, e, h _ hm (hn _ _ _ hm S), S⟩, g.2.2.kp h hn⟩
theorem append : ∀ {kvs kvs' : List (Int × Value)} {ss ss' : List (Int × List Int)}, SetsV w led kvs ss → SetsV w led kvs' ss' → SetsV w led (kvs ++ kvs') (ss ++ ss')
  | [], _, [], _, _, g => g
  | _ :: _, _, _ :: _, _, h, g => ⟨h.1, h.2.1, h.2.2.append g⟩
theorem drop_key (k : Int) : ∀ {kvs : List (Int × Value)} {ss : List (Int × List Int)}, SetsV w led kvs ss → SetsV w led (PySem.without kvs k) (ss.filter fun p => decide (p.1 ≠ k))
  | [], [], _ => trivial
  | kv :: kvs, p :: ss, h => by
    have h2 := h.2.2.drop_key k
    have e := h.1
    unfold PySem.without at h2 ⊢
    by_cases c : p.1 = k
    · rw [List.filter_cons_of_neg (by simp [e, c]), List.filter_cons_of_neg (by simp [c])]
      exact h2
    · rw [List.filter_cons_of_pos (by simp [e, c]), List.filter_cons_of_pos (by simp [c])]
      exact ⟨e, h.2.1, h2⟩
end SetsV
noncomputable def putS (ss : List (Int × List Int)) (k : Int) (ns : List Int) : List (Int × List Int) := if ss.any (fun p => p.1 = k) then ss.map (fun p => if p.1 = k then (p.1, ns) else p) else ss ++ [(k, ns)]
theorem SetsV.any {w : World} {led : Led} {k : Int} : ∀ {kvs : List (Int × Value)} {ss : List (Int × List Int)}, SetsV w led kvs ss → (kvs.any fun kv => kv.1 = k) = (ss.any fun p => p.1 = k)
  | [], [], _ => rfl
  | _ :: _, _ :: _, h => by rw [List.any_cons, List.any_cons, h.1, h.2.2.any]
theorem SetsV.setmap {w : World} {led : Led} {k : Int} {a : Addr} {o : Obj} {ns : List Int} (hm : (a, o) ∈ led) (S : SetM w o ns) : ∀ {kvs : List (Int × Value)} {ss : List (Int × List Int)}, SetsV w led kvs ss →
    SetsV w led (kvs.map fun kv => if kv.1 = k then (kv.1, .ref a) else kv) (ss.map fun p => if p.1 = k then (p.1, ns) else p)
  | [], [], _ => trivial
  | kv :: kvs, p :: ss, h => by
    have e := h.1
    refine ⟨?_, ?_, h.2.2.setmap hm S⟩
    · dsimp only
      by_cases c : p.1 = k
      · rw [if_pos (by rw [e]; exact c), if_pos c]; exact e
      · rw [if_neg (by rw [e]; exact c), if_neg c]; exact e
    · dsimp only
      by_cases c : p.1 = k
      · rw [if_pos (by rw [e]; exact c), if_pos c]; exact ⟨a, o, rfl, hm, S⟩
      · rw [if_neg (by rw [e]; exact c), if_neg c]; exact h.2.1
theorem SetsV.stored {w : World} {led : Led} {k : Int} {a : Addr} {o : Obj} {ns : List Int} {kvs : List (Int × Value)} {ss : List (Int × List Int)} (h : SetsV w led kvs ss) (hm : (a, o) ∈ led) (S : SetM w o ns) : SetsV w led (stored kvs k (.ref a)) (putS ss k ns) := by
  unfold PySem.stored putS
  rw [h.any (k := k)]
  split
  · exact h.setmap hm S
  · exact h.append ⟨rfl, ⟨a, o, rfl, hm, S⟩, trivial⟩
end Mine
end

section
open PySem PySem.W PySem.Calls PyProof.Rows PyProof.Rows.LCg
namespace Mine
section
variable {prog : Program} {w : World} {c : Cfg} {A : Around} {n : Nat} {m : Loc} {led : Led} {s : Shared} {E : Value → Shared → Prop}
theorem for_keys {x : Str} {px : Pos} {I d : Addr} {oI o : Obj} {kvs : List (Int × Value)} {ep : Nat} {body orelse : List Stmt} {env : Env} {R : Result → Shared → Prop} (C : Cx w c A n m ((I, oI) :: led) s) (hI : IsKi oI d 0 kvs.length ep) (ha : DcAt prog w o kvs ep)
    (J : Nat → Loc → Led → Prop) (hJ : ∀ i m led, J i m led → (d, o) ∈ led) (h0 : J 0 m led)
    (turn : ∀ i m led s k v t E' oI, kvs[i]? = some (k, v) → J i m led → IsKi oI d (i + 1) kvs.length ep → Cx w c A n m ((I, oI) :: led) s →
      ∀ T : Flow → Shared → Prop, (∀ s m' led', Cx w c A n m' ((I, oI) :: led') s → J (i + 1) m' led' → T .next s) → (∀ v s, R (.ok (.ret v)) s → T (.ret v) s) →
      wpAny (model prog w) A (assign (.Name x px) env (.int k t)) (fun _ s => wpAny (model prog w) A (execs body env) T E' s) E' s)
    (done : ∀ m led s E', J kvs.length m led → Cx w c A n m led s → wpAny (model prog w) A (execs orelse env) (fun f s => R (.ok f) s) E' s) :
    codeAny (model prog w) A (.forLoop (.Name x px) (.ref I) body orelse env) R s := by
  refine codeAny_loop' rfl (ForI w c A n I kvs.length (fun o i => IsKi o d i kvs.length ep) J) (fun q s IH => ?_) kvs.length ⟨0, m, led, oI, rfl, Nat.zero_le _, hI, C, h0⟩
  obtain ⟨i, m, led, oI, rfl, hi, hI, C, hj⟩ := IH
  show wpAny _ _ ((forTurn (.Name x px) (.ref I) body orelse env).onRaise (fun x => do noteFrame x env; theTreesLotGoes x)) _ _ s
  refine wpAny_noted ?_
  simp only [forTurn]
  refine wpAny_bind (wpAny_standAt (wpAny_bind (wpAny_onRaise ?_)))
  by_cases hlt : i < kvs.length
  · refine next_key C hI ha (hJ _ _ _ hj) (List.getElem?_eq_getElem hlt) fun t o' s hI' C' => ?_
    refine wpAny_bind (wpAny_pure (a := ()) ?_)
    refine wpAny_bind (wpAny_mono (turn i m led s _ _ t _ o' (List.getElem?_eq_getElem hlt) hj hI' C' (fun f s => match f with
        | .next | .cont => ∃ d', d' < kvs.length - i ∧ ForI w c A n I kvs.length (fun o i => IsKi o d i kvs.length ep) J d' s
        | .brk => R (.ok .next) s
        | .ret v => R (.ok (.ret v)) s) (fun _ m' led' C j => ⟨kvs.length - (i + 1), by omega, i + 1, m', led', o', rfl, hlt, hI', C, j⟩) fun _ _ q => q) (fun _ s₂ h₂ => wpAny_bind (wpAny_mono h₂ (fun f s₃ h₃ => ?_) fun _ _ h' => h')) fun _ _ h' => h')
    cases f with
    | next => exact wpAny_pure (.inl ⟨rfl, h₃⟩)
    | cont => exact wpAny_pure (.inl ⟨rfl, h₃⟩)
    | brk => exact wpAny_pure h₃
    | ret v => exact wpAny_pure h₃
  · have e : i = kvs.length := by lia
    subst e
    refine key_end C hI ha (hJ _ _ _ hj) (List.getElem?_eq_none (Nat.le_refl _)) fun s C' => ?_
    exact wpAny_pure (.inr ⟨rfl, codeAny_block (done m led s _ hj C')⟩)
structure WlP (prog : Program) (w : World) (led : Led) (wD : Addr) (oD : Obj) (kvsD : List (Str × Value)) (fA : Addr) (fO : Obj) (vD : Addr) (vO : Obj) (vkvs : List (Int × Value)) (b mn g cur : Int) (fs : List Int) (ss : List (Int × List Int)) : Prop where
  hD : (wD, oD) ∈ led
  dc : DcS prog w wD oD kvsD
  zn : kvsD.length ≤ 6
  vb : ∃ t, valueAt kvsD "begin" = some (.int b t)
  vm : ∃ t, valueAt kvsD "many" = some (.int mn t)
  vg : ∃ t, valueAt kvsD "txg" = some (.int g t)
  vc : ∃ t, valueAt kvsD "cursor" = some (.int cur t)
  vf : valueAt kvsD "free" = some (.ref fA)
  vw : valueAt kvsD "waits" = some (.ref vD)
  hf : (fA, fO) ∈ led
  sf : SetM w fO fs
  hv : (vD, vO) ∈ led
  dv : DcI prog w vD vO vkvs
  wv : SetsV w led vkvs ss
  ne : wD ≠ vD
inductive WlV (prog : Program) (w : World) (led : Led) (wD vD : Addr) (b mn g cur : Int) (fs : List Int) (ss : List (Int × List Int)) : Prop
  | mk (oD : Obj) (kvsD : List (Str × Value)) (fA : Addr) (fO vO : Obj) (vkvs : List (Int × Value)) (W : WlP prog w led wD oD kvsD fA fO vD vO vkvs b mn g cur fs ss) : WlV prog w led wD vD b mn g cur fs ss
variable {wD : Addr} {oD : Obj} {kvsD : List (Str × Value)} {fA : Addr} {fO : Obj} {vD : Addr} {vO : Obj} {vkvs : List (Int × Value)} {b mn g cur : Int} {fs : List Int} {ss : List (Int × List Int)}
theorem WlP.mono {led' : Led} (W : WlP prog w led wD oD kvsD fA fO vD vO vkvs b mn g cur fs ss) (h : ∀ p ∈ led, p ∈ led') : WlP prog w led' wD oD kvsD fA fO vD vO vkvs b mn g cur fs ss :=
  ⟨h _ W.hD, W.dc, W.zn, W.vb, W.vm, W.vg, W.vc, W.vf, W.vw, h _ W.hf, W.sf, h _ W.hv, W.dv, W.wv.mono h, W.ne⟩
theorem WlV.mono {led' : Led} (W : WlV prog w led wD vD b mn g cur fs ss) (h : ∀ p ∈ led, p ∈ led') : WlV prog w led' wD vD b mn g cur fs ss :=
  let ⟨oD, kvsD, fA, fO, vO, vkvs, W⟩ := W; ⟨oD, kvsD, fA, fO, vO, vkvs, W.mono h⟩
theorem DcS.cls {d : Addr} {o : Obj} {kvs : List (Str × Value)} (h : DcS prog w d o kvs) : o.cls = .type "dict" := by
  obtain ⟨es, ep, x, _⟩ := h.is; exact x.1
theorem DcI.cls {d : Addr} {o : Obj} {kvs : List (Int × Value)} (h : DcI prog w d o kvs) : o.cls = .type "dict" := by
  obtain ⟨es, ep, x, _⟩ := h.is; exact x.1
theorem SetM.cls {o : Obj} {ns : List Int} (h : SetM w o ns) : o.cls = .type "set" := h.1.1
theorem WlP.kp {led' : Led} {as : List Addr} (W : WlP prog w led wD oD kvsD fA fO vD vO vkvs b mn g cur fs ss) (C : Cx w c A n m led s) (h : Kp as led led') (has : ∀ a ∈ as, ∃ o, (a, o) ∈ led ∧ o.cls ≠ .type "set") (h1 : wD ∉ as) (h2 : vD ∉ as) :
    WlP prog w led' wD oD kvsD fA fO vD vO vkvs b mn g cur fs ss := by
  have hset : ∀ a o ns, (a, o) ∈ led → SetM w o ns → a ∉ as := by
    intro a o ns hm S ha
    obtain ⟨o', hm', hc⟩ := has a ha
    exact hc (by rw [C.one hm' hm]; exact S.cls)
  exact ⟨h _ W.hD h1, W.dc, W.zn, W.vb, W.vm, W.vg, W.vc, W.vf, W.vw, h _ W.hf (hset _ _ _ W.hf W.sf), W.sf, h _ W.hv h2, W.dv, W.wv.kp h hset, W.ne⟩
theorem bd_len {b mn : Int} {ns : List Int} (hn : ns.Nodup) (h : ∀ x ∈ ns, b ≤ x ∧ x < b + mn) : ns.length ≤ mn.toNat := by
  have := sub_len (b := (List.range mn.toNat).map fun (i : Nat) => b + (i : Int)) hn (fun x hx => by
    have := h x hx
    exact List.mem_map.mpr ⟨(x - b).toNat, List.mem_range.mpr (by omega), by lia⟩)
  simpa using this
end
end Mine
end

section
open PySem PySem.W PySem.Calls PyProof.Rows PyProof.Rows.LCg
namespace Mine
section
variable {prog : Program} {w : World} {c : Cfg} {A : Around} {n : Nat} {m : Loc} {led : Led} {s : Shared} {E : Value → Shared → Prop}
variable {wD : Addr} {oD : Obj} {kvsD : List (Str × Value)} {fA : Addr} {fO : Obj} {vD : Addr} {vO : Obj} {vkvs : List (Int × Value)} {b mn g cur : Int} {fs : List Int} {ss : List (Int × List Int)}
theorem lw_all0 {Q : Value → Shared → Prop} (C : Cx w c A (n + 1) m led s) (hD : (wD, oD) ∈ led) (dc : DcS prog w wD oD kvsD) {t1 t2 : Tok} (vb : valueAt kvsD "begin" = some (.int b t1)) (vm : valueAt kvsD "many" = some (.int mn t2)) (hb : 0 ≤ b) (hmn : 0 < mn) (hm : mn ≤ 40) (hbm : b + mn ≤ 1000)
    (K : ∀ D o vs s, SetM w o vs → (∀ x, x ∈ vs ↔ b ≤ x ∧ x < b + mn) → Cx w c A (n + 1) m ((D, o) :: led) s → Q (.ref D) s) : wpAny (model prog w) A (call (.ref 317) [.ref wD]) Q E s := by
  refine enter0 (binds := [(Str.ofString "world", .ref wD)]) C (by k_is) (by k_is) (BindsTo.of_eq rfl) (locs rfl) (fun c A E s C Qr kQ => ?_) rfl rfl rfl (by decide)
  walk_at "xc"
  refine wpAny_Return_some ?_
  refine opv fun _ _ => ?_
  refine Call_ ?_
  refine nm_b C (by k_is) (by boot_fast) ?_ (by decide) rfl rfl (by decide)
  refine PyProof.Rows.callWith_type1 ?_
  refine spliced_more ?_
  refine opv fun _ _ => ?_
  refine Call_ ?_
  refine nm_b C (by k_is) (by boot_fast) ?_ (by decide) rfl rfl (by decide)
  refine PyProof.Rows.callWith_type1 ?_
  refine spliced_more ?_
  refine Subscript_ ?_
  refine nm_l C (by walk_at "lk") ?_ rfl rfl (by decide)
  with_reducible refine k_str C fun t s C => ?_
  refine d_itemS C hD dc vb (fun s C => ?_) (by with_unfolding_all rfl)
  refine spliced_more ?_
  refine opv fun _ _ => ?_
  refine wpAny_BinOp ?_
  refine Subscript_ ?_
  refine nm_l C (by walk_at "lk") ?_ rfl rfl (by decide)
  with_reducible refine k_str C fun t s C => ?_
  refine d_itemS C hD dc vb (fun s C => ?_) (by with_unfolding_all rfl)
  refine Subscript_ ?_
  refine nm_l C (by walk_at "lk") ?_ rfl rfl (by decide)
  with_reducible refine k_str C fun t s C => ?_
  refine d_itemS C hD dc vm (fun s C => ?_) (by with_unfolding_all rfl)
  with_reducible refine a_add C fun t s C => ?_
  walk_at "op"
  refine spliced_none ?_
  refine b_range C fun R v s C => ?_
  walk_at "op"
  refine spliced_none ?_
  refine o_range C hb (by lia) (by lia) (by lia) (by lia) fun D o vs s S hm C => ?_
  walk_at "op"
  walk_at "ar"
  try walk_at "rt"
  exact kQ _ _ _ _ C (fun C => K _ _ _ _ S hm C)
theorem lw_all {Q : Value → Shared → Prop} (C : Cx w c A (n + 1) m led s) (W : WlP prog w led wD oD kvsD fA fO vD vO vkvs b mn g cur fs ss) (hb : 0 ≤ b) (hmn : 0 < mn) (hm : mn ≤ 40) (hbm : b + mn ≤ 1000)
    (K : ∀ D o vs s, SetM w o vs → (∀ x, x ∈ vs ↔ b ≤ x ∧ x < b + mn) → Cx w c A (n + 1) m ((D, o) :: led) s → Q (.ref D) s) : wpAny (model prog w) A (call (.ref 317) [.ref wD]) Q E s := by
  obtain ⟨t1, vb⟩ := W.vb
  obtain ⟨t2, vm⟩ := W.vm
  exact lw_all0 C W.hD W.dc vb vm hb hmn hm hbm K
inductive J18 (w : World) (led : Led) (wD : Addr) (b mn : Int) (fs : List Int) (ss : List (Int × List Int)) (i : Nat) (m' : Loc) (led' : Led) : Prop
  | mk (m1 : m' (Str.ofString "world") = some (.ref wD)) (hs : ∀ p ∈ led, p ∈ led') (D : Addr) (o : Obj) (vs : List Int) (m2 : m' (Str.ofString "found") = some (.ref D)) (hD : (D, o) ∈ led') (S : SetM w o vs) (hm : ∀ x, x ∈ vs ↔ (b ≤ x ∧ x < b + mn) ∧ x ∉ fs ∧ ∀ p ∈ ss.take i, x ∉ p.2) : J18 w led wD b mn fs ss i m' led'
theorem lw_given {Q : Value → Shared → Prop} (C : Cx w c A (n + 2) m led s) (W : WlP prog w led wD oD kvsD fA fO vD vO vkvs b mn g cur fs ss) (hb : 0 ≤ b) (hmn : 0 < mn) (hm : mn ≤ 40) (hbm : b + mn ≤ 1000) (hf : ∀ x ∈ fs, b ≤ x ∧ x < b + mn) (hs : ∀ p ∈ ss, ∀ x ∈ p.2, b ≤ x ∧ x < b + mn)
    (K : ∀ D o vs led' s, (∀ p ∈ led, p ∈ led') → (D, o) ∈ led' → SetM w o vs → (∀ x, x ∈ vs ↔ (b ≤ x ∧ x < b + mn) ∧ x ∉ fs ∧ ∀ p ∈ ss, x ∉ p.2) → Cx w c A (n + 2) m led' s → Q (.ref D) s) : wpAny (model prog w) A (call (.ref 324) [.ref wD]) Q E s := by
  have hfl := bd_len W.sf.nd hf
  refine enter0 (binds := [(Str.ofString "world", .ref wD)]) C (by k_is) (by k_is) (BindsTo.of_eq rfl) (locs rfl) (fun c A E s C Qr kQ => ?_) rfl rfl rfl (by decide)
  walk_at "xc"
  refine wpAny_Assign_Name ?_
  refine opv fun _ _ => ?_
  refine wpAny_BinOp ?_
  refine Call_ ?_
  refine nm_g C (by k_is) ?_ rfl rfl (by decide)
  refine cw_more C (by k_is) ?_
  refine spliced_more ?_
  refine nm_l C (by walk_at "lk") ?_ rfl rfl (by decide)
  refine spliced_none ?_
  refine ⟨C.Xs, ?_⟩
  refine lw_all C W hb hmn hm hbm fun D0 o0 vs0 s S0 hm0 C => ?_
  refine Subscript_ ?_
  refine nm_l C (by walk_at "lk") ?_ rfl rfl (by decide)
  with_reducible refine k_str C fun t s C => ?_
  have W0 := W.mono (led' := (D0, o0) :: led) fun p hp => .tail _ hp
  refine d_itemS C W0.hD W0.dc W0.vf (fun s C => ?_) (by with_unfolding_all rfl)
  refine o_sub C (.head _) S0 W0.hf W0.sf (by have := bd_len S0.nd (fun x hx => (hm0 x).mp hx); lia) (by lia) fun D1 o1 vs1 s S1 hm1 C => ?_
  walk_at "op"
  refine st_l C (fun s C => ?_) rfl rfl
  have W1 := W.mono (led' := (D1, o1) :: (D0, o0) :: led) fun p hp => .tail _ (.tail _ hp)
  walk_at "xc"
  refine wpAny_For ?_
  refine Subscript_ ?_
  refine nm_l C (by walk_at "lk") ?_ rfl rfl (by decide)
  with_reducible refine k_str C fun t s C => ?_
  refine d_itemS C W1.hD W1.dc W1.vw (fun s C => ?_) (by with_unfolding_all rfl)
  refine iter_dict C W1.hv W.dv fun I oI ep s ha hI C => ?_
  refine for_keys C hI ha (J18 w led wD b mn fs ss)
    (fun i m' led' h => by obtain ⟨_, h⟩ := h; exact h _ W.hv) ⟨by walk_at "lk", fun p hp => .tail _ (.tail _ hp), D1, o1, vs1, by walk_at "lk", .head _, S1, fun x => by rw [hm1 x, hm0 x]; simp⟩ ?_ ?_
  · rintro i m' led' s k v t E' oI hkv ⟨m1, hs', D, o, vs, m2, hD, S, hm⟩ hI C T kN kR
    have hi : i < ss.length := by have := (List.getElem?_eq_some_iff.mp hkv).1; rw [W.wv.len] at this; exact this
    obtain ⟨a, oa, e1, ha1, Sa⟩ := W.wv.at2 i hi
    rw [e1, Option.some.injEq, Prod.mk.injEq] at hkv
    obtain ⟨rfl, rfl⟩ := hkv
    have hval := valueAt_get W.dv.nodup e1
    have W2 := (W.mono hs').mono (led' := (I, oI) :: led') fun p hp => .tail _ hp
    refine wpAny_assign_Name (st_l C (fun s C => ?_) rfl rfl)
    walk_at "xc"
    refine wpAny_Assign_Name ?_
    refine opv fun _ _ => ?_
    refine wpAny_BinOp ?_
    refine nm_l C (by walk_at "lk") ?_ rfl rfl (by decide)
    refine Subscript_ ?_
    refine Subscript_ ?_
    refine nm_l C (by walk_at "lk") ?_ rfl rfl (by decide)
    with_reducible refine k_str C fun t s C => ?_
    refine d_itemS C W2.hD W2.dc W2.vw (fun s C => ?_) (by with_unfolding_all rfl)
    refine nm_l C (by walk_at "lk") ?_ rfl rfl (by decide)
    refine d_item C W2.hv W2.dv hval (fun s C => ?_) (by with_unfolding_all rfl)
    refine o_sub C (.tail _ hD) S (.tail _ (hs' _ ha1)) Sa (by have := bd_len S.nd (fun x hx => ((hm x).mp hx).1); lia) (by have := bd_len Sa.nd (fun x hx => hs _ (List.getElem_mem hi) x hx); lia) fun D2 o2 vs2 s S2 hm2 C => ?_
    walk_at "op"
    refine st_l C (fun s C => ?_) rfl rfl
    walk_at "xn"
    replace C := C.swap
    refine kN _ _ _ C ⟨by walk_at "lk", fun p hp => .tail _ (hs' p hp), D2, o2, vs2, by walk_at "lk", .head _, S2, fun x => ?_⟩
    rw [hm2 x, hm x, take_snoc hi]
    constructor
    · rintro ⟨⟨a1, a2, a3⟩, a4⟩
      refine ⟨a1, a2, fun p hp => ?_⟩
      rcases List.mem_append.mp hp with hp | hp
      · exact a3 p hp
      · rw [List.mem_singleton.mp hp]; exact a4
    · rintro ⟨a1, a2, a3⟩
      exact ⟨⟨a1, a2, fun p hp => a3 p (List.mem_append_left _ hp)⟩, a3 _ (List.mem_append_right _ (.head _))⟩
  · rintro m' led' s E' ⟨m1, hs', D, o, vs, m2, hD, S, hm⟩ C
    walk_at "xn"
    walk_at "xc"
    refine wpAny_Return_some ?_
    refine nm_l C (by walk_at "lk") ?_ rfl rfl (by decide)
    walk_at "ar"
    try walk_at "rt"
    exact kQ _ _ _ _ C (fun C => K D o vs led' _ hs' hD S (fun x => by rw [hm x, List.take_of_length_le (by rw [W.wv.len]; exact Nat.le_refl _)]) C)
end
end Mine
end

section
open PySem PySem.W PySem.Calls PyProof.Rows PyProof.Rows.LCg
namespace Mine
theorem asc_of (ns : List Int) (hn : ns.Nodup) : ∃ ms : List Int, ms.Pairwise (· < ·) ∧ ms.Nodup ∧ ms.length = ns.length ∧ ∀ k, k ∈ ns ↔ k ∈ ms := by
  have hp := List.mergeSort_perm ns (fun a b => decide (a ≤ b))
  have hs := List.pairwise_mergeSort (le := fun a b : Int => decide (a ≤ b)) (fun a b c h1 h2 => by simp only [decide_eq_true_eq] at *; lia) (fun a b => by simp only [Bool.or_eq_true, decide_eq_true_eq]; lia) ns
  have hn' : (ns.mergeSort (fun a b => decide (a ≤ b))).Nodup := hp.nodup_iff.mpr hn
  refine ⟨_, ?_, hn', hp.length_eq, fun k => hp.mem_iff.symm⟩
  exact (hs.and hn').imp fun h => by
    have h1 := h.1
    have h2 := h.2
    simp only [decide_eq_true_eq] at h1
    lia
theorem rg_snoc {rows : Rows} {b e : Int} (h : Rg rows) (hr : ∀ r ∈ rows, r.2 < b) (hbe : b < e) (h0 : 0 ≤ b) (h1 : e ≤ 1000) : Rg (rows ++ [(b, e)]) := by
  refine ⟨fun r hr' => ?_, ?_, fun r hr' => ?_⟩
  · rcases List.mem_append.mp hr' with q | q
    · exact h.ne r q
    · rw [List.mem_singleton.mp q]; exact hbe
  · rw [List.pairwise_append]
    refine ⟨h.ap, List.pairwise_singleton _ _, fun a ha c hc => ?_⟩
    rw [List.mem_singleton.mp hc]; exact hr a ha
  · rcases List.mem_append.mp hr' with q | q
    · exact h.bd r q
    · rw [List.mem_singleton.mp q]; exact ⟨h0, h1⟩
theorem rg_init {rows : Rows} {r : Int × Int} (h : Rg (rows ++ [r])) : Rg rows ∧ ∀ q ∈ rows, q.2 < r.1 := by
  have hp := List.pairwise_append.mp h.ap
  exact ⟨⟨fun q hq => h.ne q (List.mem_append_left _ hq), hp.1, fun q hq => h.bd q (List.mem_append_left _ hq)⟩, fun q hq => hp.2.2 q hq r (.head _)⟩
theorem RowsV.snoc_inv {led : Led} {rows : Rows} {r : Int × Int} {vs : List Value} (h : RowsV led vs (rows ++ [r])) : ∃ us v, vs = us ++ [v] ∧ RowsV led us rows ∧ RowIs led v r := by
  induction rows generalizing vs with
  | nil =>
    match vs, h with
    | [v], h => exact ⟨[], v, rfl, trivial, h.1⟩
  | cons p ps ih =>
    match vs, h with
    | v :: vs, h =>
      obtain ⟨us, u, rfl, h1, h2⟩ := ih h.2
      exact ⟨v :: us, u, rfl, ⟨h.1, h1⟩, h2⟩
section
variable {prog : Program} {w : World} {c : Cfg} {A : Around} {n : Nat} {m : Loc} {led : Led} {s : Shared} {E : Value → Shared → Prop}
inductive J19 (led : Led) (L Z : Addr) (zs : List Value) (jz : Nat) (ms : List Int) (i : Nat) (m' : Loc) (led' : Led) : Prop
  | mk (m1 : m' (Str.ofString "rows") = some (.ref L)) (hs : ∀ p ∈ led, p ∈ led') (hZ : (Z, lstO zs jz) ∈ led') (vs : List Value) (k : Nat) (rows : Rows) (hL : (L, lstO vs k) ∈ led') (hv : RowsV led' vs rows) (hg : Rg rows) (hm : ∀ x, Mem rows x ↔ x ∈ ms.take i) (hrl : rows.length ≤ i) : J19 led L Z zs jz ms i m' led'
theorem lw_runs {Q : Value → Shared → Prop} {a : Addr} {oA : Obj} {ns : List Int} (C : Cx w c A (n + 2) m led s) (ha : (a, oA) ∈ led) (S : SetM w oA ns) (hz : ns.length ≤ 58) (hbd : ∀ x ∈ ns, 0 ≤ x ∧ x < 1000)
    (K : ∀ D vs j rows led' s, (∀ p ∈ led, p ∈ led') → (D, lstO vs j) ∈ led' → RowsV led' vs rows → Rg rows → (∀ x, Mem rows x ↔ x ∈ ns) → rows.length ≤ ns.length → Cx w c A (n + 2) m led' s → Q (.ref D) s) : wpAny (model prog w) A (call (.ref 298) [.ref a]) Q E s := by
  obtain ⟨ms, hasc, hmn, hml, hmem⟩ := asc_of ns S.nd
  have S' : SetM w oA ms := S.ext hmn hmem
  refine enter0 (binds := [(Str.ofString "own", .ref a)]) C (by k_is) (by k_is) (BindsTo.of_eq rfl) (locs rfl) (fun c A E s C Qr kQ => ?_) rfl rfl rfl (by decide)
  walk_at "xc"
  refine wpAny_Assign_Name ?_
  refine List_ ?_
  refine spliced_none ?_
  refine mk_list C (Nat.zero_le _) fun L s C => ?_
  refine st_l C (fun s C => ?_) rfl rfl
  have hLf := C.ne
  walk_at "xc"
  refine wpAny_For ?_
  refine Call_ ?_
  refine nm_b C (by k_is) (by boot_fast) ?_ (by decide) rfl rfl (by decide)
  refine PyProof.Rows.callWith_builtin1 ?_
  refine spliced_more ?_
  refine nm_l C (by walk_at "lk") ?_ rfl rfl (by decide)
  refine spliced_none ?_
  refine o_sorted C (.tail _ ha) S' (by lia) hasc fun Z zs jz s hzs C => ?_
  have hZf := C.ne
  refine iter_list C (.head _) fun I o s hI C => ?_
  have hzl := IntsAre.length hzs
  refine for_list C hI (J19 led L Z zs jz ms)
    (fun i m' led' h => by obtain ⟨_, _, h⟩ := h; exact h) ⟨by walk_at "lk", fun p hp => .tail _ (.tail _ hp), .head _, [], 0, [], .tail _ (.head _), trivial, rg_nil, fun x => by simp [mem_nil], Nat.le_refl _⟩ (fun v hv => lets_name) ?_ ?_
  · rintro i m' led' s v E' o hvi ⟨m1, hs, hZ, vs, k, rows, hL, hv, hg, hm, hrl⟩ hIo C T kN kR
    obtain ⟨hi, t, rfl⟩ := ints_get hzs hvi
    have hIne := C.ne
    have hlen := hv.len
    refine wpAny_assign_Name (st_l C (fun s C => ?_) rfl rfl)
    have hx0 := hbd ms[i] ((hmem _).mpr (List.getElem_mem hi))
    have hlast : ∀ r ∈ rows, r.2 ≤ ms[i] := by
      intro r hr
      have h1 := hg.ne r hr
      have h2 := (hm (r.2 - 1)).mp ⟨r, hr, by lia, by lia⟩
      obtain ⟨j, hj, e⟩ := List.getElem_of_mem h2
      rw [List.length_take] at hj
      rw [List.getElem_take] at e
      have := List.pairwise_iff_getElem.mp hasc j i (by lia) hi (by lia)
      omega
    generalize hxe : ms[i] = xi at *
    have hmI : ∀ p : Addr × Obj, p ∈ led' → p ∈ (I, o) :: led' := fun p hp => .tail _ hp
    walk_at "xc"
    refine wpAny_If ?_
    refine isTrue_and ?_
    refine wpAny_isTrue_Compare1 ?_
    refine nm_l C (by walk_at "lk") ?_ rfl rfl (by decide)
    refine List_ ?_
    refine spliced_none ?_
    refine mk_list C (Nat.le_of_ble_eq_true rfl) fun D s C => ?_
    refine ne_rows C (.tail _ (.tail _ hL)) (hv.mono fun p hp => .tail _ (.tail _ hp)) (.head _) (RowsV.nil' _) ?_
    refine wpAny_truthy_bool ?_
    replace C := C.drop
    have hLI : L ≠ I := fun q => hIne _ hL q
    have tupL : ∀ {T : Addr} {ws : List Value} {j : Nat} {X : Led} {s : Shared} {mm : Loc}, Cx w c A (n + 1) mm X s → (L, lstO vs k) ∈ X → (T, tupO ws j) ∈ X → T ∉ [L] := fun C h1 h2 => by
      rw [List.mem_singleton]; exact C.diff h2 h1 (by simp [PySem.W.listOf])
    have fin : ∀ (X : Led) (led2 : Led) (mm : Loc) (s1 s2 : Shared) (vs2 : List Value) (k2 : Nat) (rows2 : Rows), Cx w c A (n + 1) mm X s1 → (∀ p ∈ (I, o) :: led', p ∈ X) → Kp [L] X led2 → Cx w c A (n + 1) mm ((L, lstO vs2 k2) :: led2) s2 → RowsV ((L, lstO vs2 k2) :: led2) vs2 rows2 → Rg rows2 → (∀ x, Mem rows2 x ↔ Mem rows x ∨ x = xi) → rows2.length ≤ i + 1 →
        mm (Str.ofString "rows") = some (.ref L) →
        T .next s2 := by
      intro X led2 mm s1 s2 vs2 k2 rows2 C1 hX kp C2 hv2 hg2 hm2 hr2 hmm
      have hI2 : (I, o) ∈ (L, lstO vs2 k2) :: led2 := .tail _ (kp _ (hX _ (.head _)) (by rw [List.mem_singleton]; exact hLI.symm))
      obtain ⟨led3, C3, kp3, s3⟩ := C2.front hI2
      have keep : ∀ p ∈ led', p.1 ≠ L → p ∈ led3 := fun p hp hne => kp3 _ (.tail _ (kp _ (hX _ (.tail _ hp)) (by rw [List.mem_singleton]; exact hne))) (by rw [List.mem_singleton]; exact hIne p hp)
      refine kN _ mm led3 C3 ⟨hmm, fun p hp => keep p (hs p hp) (hLf p hp), keep _ hZ (fun q => hZf _ (.head _) q.symm), vs2, k2, rows2, kp3 _ (.head _) (by rw [List.mem_singleton]; exact hLI), hv2.kp kp3 (fun t vs j ht => ?_), hg2, fun x => ?_, hr2⟩
      · rw [List.mem_singleton]; exact C2.diff ht hI2 (by rw [hIo.1]; simp)
      · rw [hm2 x, hm x, take_snoc hi, List.mem_append, List.mem_singleton, hxe]
    by_cases hr0 : rows = []
    · refine ite_f (by rw [hr0]; rfl) ?_
      refine ite_f rfl ?_
      walk_at "xc"
      refine wpAny_Expr_any ?_
      refine opv fun _ _ => ?_
      refine MethodCall_ ?_
      refine nm_l C (by walk_at "lk") ?_ rfl rfl (by decide)
      refine mt_append C (.tail _ hL) ?_
      refine callWith_method1 ?_
      refine spliced_more ?_
      refine Tuple_ ?_
      refine spliced_more ?_
      refine nm_l C (by walk_at "lk") ?_ rfl rfl (by decide)
      refine spliced_more ?_
      refine wpAny_BinOp ?_
      refine nm_l C (by walk_at "lk") ?_ rfl rfl (by decide)
      with_reducible refine k_int C fun t s C => ?_
      with_reducible refine a_add C fun t s C => ?_
      refine spliced_none ?_
      refine mk_tup C (Nat.le_of_ble_eq_true rfl) fun T s C => ?_
      refine spliced_none ?_
      have C1 := C
      obtain ⟨led2, C, kp2, s2⟩ := C.front (.tail _ (.tail _ hL))
      refine b_append C (by lia) fun s C => ?_
      walk_at "op"
      walk_at "xn"
      walk_at "xn"
      have hT2 := kp2 _ (.head _) (tupL C1 (.tail _ (.tail _ hL)) (.head _))
      have hv2 : RowsV led2 vs rows := (hv.mono (led' := (T, _) :: (I, o) :: led') fun p hp => .tail _ (.tail _ hp)).kp kp2 (fun t vs' j ht => tupL C1 (.tail _ (.tail _ hL)) ht)
      refine fin _ _ _ _ _ _ _ (rows ++ [(xi, xi + 1)]) C1 (fun p hp => .tail _ hp) kp2 C ((hv2.mono fun p hp => .tail _ hp).append (RowsV.one ⟨T, _, _, _, rfl, .tail _ hT2⟩)) (rg_snoc hg (fun r hr => by rw [hr0] at hr; cases hr) (by lia) hx0.1 (by lia)) (fun x => ?_) (by rw [List.length_append]; show rows.length + 1 ≤ _; lia) (by walk_at "lk")
      rw [mem_append, mem_one]
      exact or_congr Iff.rfl (by lia)
    · refine ite_t (by rw [decide_eq_false hr0]; rfl) ?_
      obtain ⟨init, r, hri⟩ : ∃ init r, rows = init ++ [r] := ⟨rows.dropLast, rows.getLast hr0, (List.dropLast_concat_getLast hr0).symm⟩
      have hvr := hv
      rw [hri] at hvr
      obtain ⟨us, v, huv, hvi2, hvl⟩ := hvr.snoc_inv
      obtain ⟨tt, q1, q2, j', rfl, hmt⟩ := hvl
      have hLu := hL
      rw [huv] at hLu
      refine isTrue_and ?_
      refine opv fun _ _ => ?_
      refine wpAny_isTrue_Compare1 ?_
      refine opv fun _ _ => ?_
      refine Subscript_ ?_
      refine Subscript_ ?_
      refine nm_l C (by walk_at "lk") ?_ rfl rfl (by decide)
      refine UnaryOp_ ?_
      with_reducible refine k_int C fun t s C => ?_
      refine a_neg C fun t s C => ?_
      refine it_last C (.tail _ hLu) ?_ (by with_unfolding_all rfl)
      with_reducible refine k_int C fun t s C => ?_
      refine it_tup C (.tail _ hmt) (by decide) (by decide) rfl rfl ?_ (by with_unfolding_all rfl)
      walk_at "op"
      refine nm_l C (by walk_at "lk") ?_ rfl rfl (by decide)
      refine eq_int ?_
      refine wpAny_truthy_bool ?_
      walk_at "op"
      refine ite_dec (fun hc => ?_) (fun hc => ?_)
      · refine isTrue_and_nil ?_
        refine ite_t rfl ?_
        walk_at "xc"
        refine wpAny_Assign_Subscript ?_ (by with_unfolding_all rfl)
        refine opv fun _ _ => ?_
        refine Tuple_ ?_
        refine spliced_more ?_
        refine opv fun _ _ => ?_
        refine Subscript_ ?_
        refine Subscript_ ?_
        refine nm_l C (by walk_at "lk") ?_ rfl rfl (by decide)
        refine UnaryOp_ ?_
        with_reducible refine k_int C fun t s C => ?_
        refine a_neg C fun t s C => ?_
        refine it_last C (.tail _ hLu) ?_ (by with_unfolding_all rfl)
        with_reducible refine k_int C fun t s C => ?_
        refine it_tup C (.tail _ hmt) (by decide) (by decide) rfl rfl ?_ (by with_unfolding_all rfl)
        walk_at "op"
        refine spliced_more ?_
        refine wpAny_BinOp ?_
        refine nm_l C (by walk_at "lk") ?_ rfl rfl (by decide)
        with_reducible refine k_int C fun t s C => ?_
        with_reducible refine a_add C fun t s C => ?_
        refine spliced_none ?_
        refine mk_tup C (Nat.le_of_ble_eq_true rfl) fun T s C => ?_
        walk_at "op"
        refine nm_l C (by walk_at "lk") ?_ rfl rfl (by decide)
        refine UnaryOp_ ?_
        with_reducible refine k_int C fun t s C => ?_
        refine a_neg C fun t s C => ?_
        have C1 := C
        obtain ⟨led2, C, kp2, s2⟩ := Cx.front (I := L) (o := lstO (us ++ [.ref tt]) k) C (.tail _ (.tail _ hLu))
        refine set_last C fun jj s C => ?_
        walk_at "xn"
        walk_at "xn"
        have hT2 := kp2 _ (.head _) (tupL C1 (.tail _ (.tail _ hL)) (.head _))
        have hv2 : RowsV led2 us init := RowsV.kp kp2 (fun t vs' j ht => tupL C1 (.tail _ (.tail _ hL)) ht) (hvi2.mono fun p hp => .tail _ (.tail _ hp))
        obtain ⟨hg1, hg2⟩ := rg_init (hri ▸ hg)
        have hrm := hg.ne r (by rw [hri]; exact List.mem_append_right _ (.head _))
        have hrb := hg.bd r (by rw [hri]; exact List.mem_append_right _ (.head _))
        refine fin _ _ _ _ _ _ _ (init ++ [(r.1, xi + 1)]) C1 (fun p hp => .tail _ hp) kp2 C ((hv2.mono fun p hp => .tail _ hp).append (RowsV.one ⟨T, _, _, _, rfl, .tail _ hT2⟩)) (rg_snoc hg1 hg2 (by lia) hrb.1 (by lia)) (fun x => ?_) (by have := congrArg List.length hri; rw [List.length_append] at this ⊢; simp only [List.length_singleton] at this ⊢; lia) (by walk_at "lk")
        rw [hri, mem_append, mem_append, mem_one, show [r] = [(r.1, r.2)] from rfl, mem_one, or_assoc]
        exact or_congr Iff.rfl (by omega)
      · refine ite_f rfl ?_
        walk_at "xc"
        refine wpAny_Expr_any ?_
        refine opv fun _ _ => ?_
        refine MethodCall_ ?_
        refine nm_l C (by walk_at "lk") ?_ rfl rfl (by decide)
        refine mt_append C (.tail _ hL) ?_
        refine callWith_method1 ?_
        refine spliced_more ?_
        refine Tuple_ ?_
        refine spliced_more ?_
        refine nm_l C (by walk_at "lk") ?_ rfl rfl (by decide)
        refine spliced_more ?_
        refine wpAny_BinOp ?_
        refine nm_l C (by walk_at "lk") ?_ rfl rfl (by decide)
        with_reducible refine k_int C fun t s C => ?_
        with_reducible refine a_add C fun t s C => ?_
        refine spliced_none ?_
        refine mk_tup C (Nat.le_of_ble_eq_true rfl) fun T s C => ?_
        refine spliced_none ?_
        have C1 := C
        obtain ⟨led2, C, kp2, s2⟩ := C.front (.tail _ (.tail _ hL))
        refine b_append C (by omega) fun s C => ?_
        walk_at "op"
        walk_at "xn"
        walk_at "xn"
        have hT2 := kp2 _ (.head _) (tupL C1 (.tail _ (.tail _ hL)) (.head _))
        have hv2 : RowsV led2 vs rows := (hv.mono (led' := (T, _) :: (I, o) :: led') fun p hp => .tail _ (.tail _ hp)).kp kp2 (fun t vs' j ht => tupL C1 (.tail _ (.tail _ hL)) ht)
        refine (fin _ _ _ _ _ _ _ (rows ++ [(xi, xi + 1)]) C1 (fun p hp => .tail _ hp) kp2 C ((hv2.mono fun p hp => .tail _ hp).append (RowsV.one ⟨T, _, _, _, rfl, .tail _ hT2⟩)) (rg_snoc hg (fun q hq => by
                  rw [hri] at hq
                  rcases List.mem_append.mp hq with hq | hq
                  · have h1 := (rg_init (hri ▸ hg)).2 q hq
                    have h2 := hg.ne r (by rw [hri]; exact List.mem_append_right _ (.head _))
                    have h3 := hlast r (by rw [hri]; exact List.mem_append_right _ (.head _))
                    lia
                  · rw [List.mem_singleton.mp hq]
                    have h3 := hlast r (by rw [hri]; exact List.mem_append_right _ (.head _))
                    lia) (by omega) hx0.1 (by omega)) (fun x => ?_) (by rw [List.length_append]; show rows.length + 1 ≤ _; omega) (by walk_at "lk"))
        rw [mem_append, mem_one]
        exact or_congr Iff.rfl (by omega)
  · rintro m' led' s E' ⟨m1, hs, hZ, vs, k, rows, hL, hv, hg, hm, hrl⟩ C
    walk_at "xn"
    walk_at "xc"
    refine wpAny_Return_some ?_
    refine nm_l C (by walk_at "lk") ?_ rfl rfl (by decide)
    walk_at "ar"
    try walk_at "rt"
    exact kQ _ _ _ _ C (fun C => K L vs k rows led' _ hs hL hv hg (fun x => by rw [hm x, List.take_of_length_le (by lia)]; exact (hmem x).symm) (by lia) C)
end
end Mine
end

section
open PySem PySem.W PySem.Calls PyProof.Rows PyProof.Rows.LCg
namespace Mine
noncomputable def longF (rows : Rows) (y : Int) : Rows := (rows.filter fun r => decide (y ≤ r.2 - r.1)).map fun r => (r.1, r.2)
noncomputable def behindF (rows : Rows) (y cur : Int) : List Int := ((longF rows y).filter fun r => decide (max r.1 cur + y ≤ r.2)).map fun r => max r.1 cur
theorem longF_mem {rows : Rows} {y : Int} {r : Int × Int} : r ∈ longF rows y ↔ r ∈ rows ∧ y ≤ r.2 - r.1 := by
  unfold longF
  rw [List.map_id'' (f := fun r : Int × Int => (r.1, r.2)) (fun _ => rfl), List.mem_filter, decide_eq_true_eq]
theorem behindF_mem {rows : Rows} {y cur p : Int} : p ∈ behindF rows y cur ↔ ∃ r ∈ rows, fitsAt y cur r = true ∧ p = max r.1 cur := by
  unfold behindF fitsAt
  simp only [List.mem_map, List.mem_filter, longF_mem, decide_eq_true_eq]
  constructor
  · rintro ⟨r, ⟨⟨h1, h2⟩, h3⟩, rfl⟩
    exact ⟨r, h1, h3, rfl⟩
  · rintro ⟨r, h1, h3, rfl⟩
    exact ⟨r, ⟨⟨h1, by lia⟩, h3⟩, rfl⟩
theorem find_first {y cur : Int} : ∀ {rows : Rows} {r0 : Int × Int}, Rg rows → rows.find? (fitsAt y cur) = some r0 → ∀ r ∈ rows, fitsAt y cur r = true → r0.1 ≤ r.1
  | [], _, _, h, _, _, _ => by simp at h
  | q :: rows, r0, hg, h, r, hr, hf => by
    by_cases c : fitsAt y cur q = true
    · rw [List.find?_cons_of_pos c] at h
      cases h
      rcases List.mem_cons.mp hr with rfl | hr
      · exact Int.le_refl _
      · have h1 := (List.pairwise_cons.mp hg.ap).1 r hr
        have h2 := hg.ne q (.head _)
        lia
    · rw [List.find?_cons_of_neg (by simpa using c)] at h
      rcases List.mem_cons.mp hr with rfl | hr
      · exact absurd hf c
      · exact find_first hg.tail h r hr hf
theorem place_min {rows : Rows} {y cur M : Int} (hg : Rg rows) (h1 : M ∈ behindF rows y cur) (h2 : ∀ a ∈ behindF rows y cur, M ≤ a) : ffit rows y cur = some M := by
  obtain ⟨r, hr, hf, rfl⟩ := behindF_mem.mp h1
  unfold ffit
  cases e : rows.find? (fitsAt y cur) with
  | none => exact absurd hf (by simpa using List.find?_eq_none.mp e r hr)
  | some r0 =>
    have h3 := find_first hg e r hr hf
    have h4 := h2 _ (behindF_mem.mpr ⟨r0, List.mem_of_find?_eq_some e, List.find?_some e, rfl⟩)
    rw [Option.map_some]
    congr 1
    omega
theorem place_none {rows : Rows} {y cur : Int} (h : behindF rows y cur = []) : ffit rows y cur = none := by
  unfold ffit
  rw [Option.map_eq_none_iff, List.find?_eq_none]
  intro r hr hf
  have := behindF_mem.mpr ⟨r, hr, hf, rfl⟩
  rw [h] at this
  cases this
theorem fitK_long {rows : Rows} {y : Int} : ((longF rows y).filter fun _ => true).map (fun r : Int × Int => (r.2 - r.1, r.1)) = fitK rows y := by
  rw [List.filter_eq_self.mpr fun _ _ => rfl]
  unfold longF fitK
  rw [List.map_map]; rfl
theorem fitK_nodup {rows : Rows} {y : Int} (hg : Rg rows) : (fitK rows y).Nodup := by
  unfold fitK
  have h1 : (rows.filter fun r => decide (y ≤ r.2 - r.1)).Pairwise fun a b => a.2 < b.1 := hg.ap.sublist (List.filter_sublist)
  refine List.pairwise_map.mpr (List.Pairwise.imp_of_mem (fun {a b} ha hb h => ?_) h1)
  intro e
  have := hg.ne a (List.mem_filter.mp ha).1
  have e2 : a.1 = b.1 := congrArg Prod.snd e
  omega
theorem fitK_long0 {rows : Rows} {y : Int} : longF rows y = [] ↔ fitK rows y = [] := by
  unfold longF fitK
  rw [List.map_eq_nil_iff, List.map_eq_nil_iff]
section
variable {prog : Program} {w : World} {c : Cfg} {A : Around} {n : Nat} {m : Loc} {led : Led} {s : Shared} {E : Value → Shared → Prop}
variable {wD : Addr} {oD : Obj} {kvsD : List (Str × Value)} {fA : Addr} {fO : Obj} {vD : Addr} {vO : Obj} {vkvs : List (Int × Value)} {b mn g cur : Int} {fs : List Int} {ss : List (Int × List Int)}
theorem RowsV.one_inv {led : Led} : ∀ {vs : List Value} {z : Int × Int}, RowsV led vs [z] → ∃ v, vs = [v] ∧ RowIs led v z
  | [v], _, h => ⟨v, rfl, h.1⟩
  | [], _, h => (h : False).elim
  | _ :: _ :: _, _, h => (h.2 : False).elim
theorem lw_place {Q : Value → Shared → Prop} {y : Int} {t2 : Tok} (C : Cx w c A (n + 4) m led s) (W : WlP prog w led wD oD kvsD fA fO vD vO vkvs b mn g cur fs ss) (hy : 0 < y) (hz : fs.length ≤ 58) (hbd : ∀ x ∈ fs, 0 ≤ x ∧ x < 1000)
    (K : ∀ v rows s, Rg rows → (∀ x, Mem rows x ↔ x ∈ fs) → PlaceI rows cur y v → Cx w c A (n + 4) m led s → Q v s) : wpAny (model prog w) A (call (.ref 303) [.ref wD, .int y t2]) Q E s := by
  have nd := C.nd
  refine enterC (binds := [(Str.ofString "world", .ref wD), (Str.ofString "count", .int y t2)]) C (by k_is) (by k_is) (BindsTo.of_eq rfl) rfl (by decide) (fun c A E s cells Y hne C Qr kQ => ?_) rfl rfl rfl
  obtain ⟨o1, o2, rfl, hM1, hM2⟩ := CellsAre.two Y
  have hv_count : cellO o1 (.int y t2) := hM1
  have hv_world : cellO o2 (.ref wD) := hM2
  have hs0 : ∀ p ∈ led, p ∈ (c.L + 1 + 1, o1) :: (c.L + 1, o2) :: led := fun p hp => .tail _ (.tail _ hp)
  have W0 := W.mono hs0
  have nd1 := C.nd
  walk_at "xc"
  refine rows_assign RowsV (fun r => decide (y ≤ r.2 - r.1)) (fun r => (r.1, r.2)) (cnd := some _) (cl := [(Str.ofString "count", c.L + 1 + 1)]) C rfl rfl rfl rfl RowsV.nil' RowsV.len' rfl (by decide) rfl (by decide) (fun _ => rfl) (fun _ => rfl) (by decide) ?_
  refine Call_ ?_
  refine nm_gC C (by k_is) ?_ rfl rfl (by decide)
  refine cw_more C (by k_is) ?_
  refine spliced_more ?_
  refine Subscript_ ?_
  refine nm_k C (by walk_at "mm") hv_world rfl rfl rfl (by decide) ?_
  with_reducible refine k_str C fun t s C => ?_
  refine d_itemS C W0.hD W0.dc W0.vf (fun s C => ?_) (by with_unfolding_all rfl)
  refine spliced_none ?_
  refine ⟨C.Xs, ?_⟩
  refine lw_runs C W0.hf W0.sf hz hbd fun D1 vs1 j1 rows led1 s k1 hD1 hv1 hg hm hrl C => ?_
  refine ⟨_, _, D1, vs1, j1, rows, rfl, C, hD1, hv1, by lia, ?_, ?_⟩
  · intro i hi ys led' s E' a D oC m2 I o j t1 t2 hs hn h1 h2 C
    have hc := hs _ (k1 _ (.head _))
    refine wpAny_isTrue_Compare1 ?_
    refine wpAny_BinOp ?_
    refine nm_v C (by walk_at "mm") hn (by walk_at "lk") rfl rfl rfl (by decide) ?_
    refine nm_v C (by walk_at "mm") hn (by walk_at "lk") rfl rfl rfl (by decide) ?_
    with_reducible refine a_sub C fun t s C => ?_
    refine nm_k C (by walk_at "mm") hv_count rfl rfl rfl (by decide) ?_
    refine ge_int ?_
    refine wpAny_truthy_bool ?_
    refine ite_dec (fun g => ?_) (fun g => ?_)
    · refine Tuple_ ?_
      refine spliced_more ?_
      refine nm_v C (by walk_at "mm") hn (by walk_at "lk") rfl rfl rfl (by decide) ?_
      refine spliced_more ?_
      refine nm_v C (by walk_at "mm") hn (by walk_at "lk") rfl rfl rfl (by decide) ?_
      refine spliced_none ?_
      refine mk_tup C (Nat.le_of_ble_eq_true rfl) fun D s C => ?_
      replace C := Cx.push (a := [_, _, _]) C
      exact ⟨_, _, _, hn, C, fun p hp => .tail _ hp, decide_eq_true g, fun zs h => (h.mono fun p hp => .tail _ hp).append (RowsV.one ⟨_, _, _, _, rfl, .head _⟩)⟩
    · exact ⟨_, _, hn, C, decide_eq_false g⟩
  intro ys led2 hs2 hy2 s D2 j2 C
  have hy2' : RowsV led2 ys (longF rows y) := hy2
  have k2 : ∀ p ∈ (c.L + 1 + 1, o1) :: (c.L + 1, o2) :: led, p ∈ led2 := fun p hp => hs2 p (k1 p hp)
  have W2 := (W0.mono k2).mono (led' := (D2, lstO ys j2) :: led2) fun p hp => .tail _ hp
  have hll : (longF rows y).length ≤ rows.length := by unfold longF; rw [List.length_map]; exact List.length_filter_le _ _
  walk_at "xc"
  refine rows_assign YI (fun r => decide (max r.1 cur + y ≤ r.2)) (fun r => max r.1 cur) (cnd := some _) (cl := [(Str.ofString "world", c.L + 1), (Str.ofString "count", c.L + 1 + 1)]) C rfl rfl rfl rfl YI0 YIl rfl (by decide) rfl (by decide) (fun _ => rfl) (fun _ => rfl) (by decide) ?_
  refine nm_lC C (by walk_at "lk") ?_ rfl rfl (by decide)
  refine ⟨_, _, D2, ys, j2, longF rows y, rfl, C, .head _, hy2'.mono fun p hp => .tail _ hp, by lia, ?_, ?_⟩
  · intro i hi ys' led' s E' a D oC m2 I o j t1 t2 hs hn h1 h2 C
    have hc := hs _ (.tail _ (k2 _ (.head _)))
    have hw := hs _ (.tail _ (k2 _ (.tail _ (.head _))))
    have W3 := (W2.mono hs).mono (led' := (a, oC) :: (D, lstO ys' j) :: (I, o) :: led') fun p hp => .tail _ (.tail _ (.tail _ hp))
    obtain ⟨tc, vc⟩ := W3.vc
    refine wpAny_isTrue_Compare1 ?_
    refine wpAny_BinOp ?_
    refine Call_ ?_
    refine nm_bv C (by k_is) (by boot_fast) ?_ (by decide) rfl rfl rfl rfl (by decide)
    refine PyProof.Rows.callWith_builtin1 ?_
    refine spliced_more ?_
    refine nm_v C (by walk_at "mm") hn (by walk_at "lk") rfl rfl rfl (by decide) ?_
    refine spliced_more ?_
    refine Subscript_ ?_
    refine nm_k C (by walk_at "mm") hv_world rfl rfl rfl (by decide) ?_
    with_reducible refine k_str C fun t s C => ?_
    refine d_itemS C W3.hD W3.dc vc (fun s C => ?_) (by with_unfolding_all rfl)
    refine spliced_none ?_
    refine b_max C fun t s C => ?_
    refine nm_k C (by walk_at "mm") hv_count rfl rfl rfl (by decide) ?_
    with_reducible refine a_add C fun t s C => ?_
    refine nm_v C (by walk_at "mm") hn (by walk_at "lk") rfl rfl rfl (by decide) ?_
    refine le_int ?_
    refine wpAny_truthy_bool ?_
    refine ite_dec (fun g => ?_) (fun g => ?_)
    · refine Call_ ?_
      refine nm_bv C (by k_is) (by boot_fast) ?_ (by decide) rfl rfl rfl rfl (by decide)
      refine PyProof.Rows.callWith_builtin1 ?_
      refine spliced_more ?_
      refine nm_v C (by walk_at "mm") hn (by walk_at "lk") rfl rfl rfl (by decide) ?_
      refine spliced_more ?_
      refine Subscript_ ?_
      refine nm_k C (by walk_at "mm") hv_world rfl rfl rfl (by decide) ?_
      with_reducible refine k_str C fun t s C => ?_
      refine d_itemS C W3.hD W3.dc vc (fun s C => ?_) (by with_unfolding_all rfl)
      refine spliced_none ?_
      refine b_max C fun t s C => ?_
      exact ⟨_, _, _, hn, C, fun p hp => hp, decide_eq_true g, fun zs h => Mine.IntsAre.snoc h _ _⟩
    · exact ⟨_, _, hn, C, decide_eq_false g⟩
  intro ys3 led3 hs3 hy3 s D3 j3 C
  have hy3' : IntsAre ys3 (behindF rows y cur) := hy3
  have k3 : ∀ p ∈ (c.L + 1 + 1, o1) :: (c.L + 1, o2) :: led, p ∈ (D3, lstO ys3 j3) :: led3 := fun p hp => .tail _ (hs3 p (.tail _ (k2 p hp)))
  have hback : ∀ {mm : Loc} {s' : Shared} {X : Led}, Cx w c A (n + 3) mm X s' → (∀ p ∈ (D3, lstO ys3 j3) :: led3, p ∈ X) → Cx w c A (n + 3) mm led s' := fun C hX => (C.back (fun p hp => hX p (k3 p hp)) nd1).drop.drop
  walk_at "xc"
  refine wpAny_If ?_
  refine wpAny_isTrue_Compare1 ?_
  refine nm_lC C (by walk_at "lk") ?_ rfl rfl (by decide)
  refine List_ ?_
  refine spliced_none ?_
  refine mk_list C (Nat.le_of_ble_eq_true rfl) fun D s C => ?_
  refine ne_ints C (.tail _ (.head _)) hy3' (.head _) .nil ?_
  refine wpAny_truthy_bool ?_
  by_cases hb0 : behindF rows y cur = []
  · refine ite_f (by rw [hb0]; rfl) ?_
    walk_at "xn"
    have hff := place_none hb0
    walk_at "xc"
    refine wpAny_Return_some ?_
    refine IfExp_ ?_
    have hD2 : (D2, lstO ys j2) ∈ led3 := hs3 _ (.head _)
    have hv3 : RowsV led3 ys (longF rows y) := hy2'.mono fun p hp => hs3 p (.tail _ hp)
    refine wpAny_isTrue_Compare1 ?_
    refine nm_lC C (by walk_at "lk") ?_ rfl rfl (by decide)
    refine List_ ?_
    refine spliced_none ?_
    refine mk_list C (Nat.le_of_ble_eq_true rfl) fun D s C => ?_
    refine ne_rows C (.tail _ (.tail _ (.tail _ hD2))) (hv3.mono fun p hp => .tail _ (.tail _ (.tail _ hp))) (.head _) (RowsV.nil' _) ?_
    refine wpAny_truthy_bool ?_
    by_cases hr0 : longF rows y = []
    · refine ite_f (by rw [hr0]; rfl) ?_
      refine Constant_none ?_
      try walk_at "rt"
      refine kQ _ _ _ _ (hback C fun p hp => .tail _ (.tail _ hp)) (fun C => K _ rows _ hg hm (.inr ⟨hff, .inl ⟨fitK_long0.mp hr0, rfl⟩⟩) C)
    · refine ite_t (by rw [decide_eq_false hr0]; rfl) ?_
      refine Subscript_ ?_
      refine Subscript_ ?_
      refine Call_ ?_
      refine nm_bC C (by k_is) (by boot_fast) ?_ (by decide) rfl rfl (by decide)
      refine PyProof.Rows.callWith_builtin1 ?_
      refine spliced_more ?_
      refine rows_eval RowsV (fun _ => true) (fun r => (r.2 - r.1, r.1)) (cnd := none) (cl := []) C RowsV.nil' RowsV.len' rfl (by decide) rfl (by decide) (fun _ => rfl) (fun _ => rfl) (by decide) ?_
      refine nm_lC C (by walk_at "lk") ?_ rfl rfl (by decide)
      refine ⟨_, _, D2, ys, j2, longF rows y, rfl, C, .tail _ (.tail _ (.tail _ hD2)), hv3.mono fun p hp => .tail _ (.tail _ (.tail _ hp)), by omega, ?_, ?_⟩
      · intro i hi ys' led' s E' a D oC m2 I o j t1 t2 hs hn h1 h2 C
        refine Tuple_ ?_
        refine spliced_more ?_
        refine wpAny_BinOp ?_
        refine nm_v C (by walk_at "mm") hn (by walk_at "lk") rfl rfl rfl (by decide) ?_
        refine nm_v C (by walk_at "mm") hn (by walk_at "lk") rfl rfl rfl (by decide) ?_
        with_reducible refine a_sub C fun t s C => ?_
        refine spliced_more ?_
        refine nm_v C (by walk_at "mm") hn (by walk_at "lk") rfl rfl rfl (by decide) ?_
        refine spliced_none ?_
        refine mk_tup C (Nat.le_of_ble_eq_true rfl) fun D s C => ?_
        replace C := Cx.push (a := [_, _, _]) C
        exact ⟨_, _, _, hn, C, fun p hp => .tail _ hp, rfl, fun zs h => (h.mono fun p hp => .tail _ hp).append (RowsV.one ⟨_, _, _, _, rfl, .head _⟩)⟩
      intro ys4 led4 hs4 hy4 s D4 j4 C
      have hy4' : RowsV led4 ys4 (fitK rows y) := by rw [← fitK_long]; exact hy4
      refine spliced_none ?_
      have hne : fitK rows y ≠ [] := fun q => hr0 (fitK_long0.mpr q)
      have hkl : (fitK rows y).length ≤ rows.length := by unfold fitK; rw [List.length_map]; exact List.length_filter_le _ _
      have fin : ∀ (D5 : Addr) (vs5 : List Value) (j5 : Nat) (s : Shared) (v : Value) (z : Int × Int), vs5[0]? = some v → RowIs led4 v z → z ∈ fitK rows y → (∀ z' ∈ fitK rows y, lex z' z = false) → ∀ mm : Loc, Cx w c A (n + 3) mm ((D5, lstO vs5 j5) :: (D4, lstO ys4 j4) :: led4) s →
          ∃ (t : Addr) (k1 k2 : Tok) (j : Nat), v = .ref t ∧ (t, tupO [.int z.1 k1, .int z.2 k2] j) ∈ (D5, lstO vs5 j5) :: (D4, lstO ys4 j4) :: led4 ∧ BestI rows y (.int z.2 k2) := by
        rintro D5 vs5 j5 s v z h1 ⟨t, q1, q2, j, rfl, hmt⟩ hz hmin mm C
        exact ⟨t, q1, q2, j, rfl, .tail _ (.tail _ hmt), .inr ⟨z, q2, rfl, hz, hmin⟩⟩
      by_cases h1 : (fitK rows y).length = 1
      · obtain ⟨z, hz⟩ := List.length_eq_one_iff.mp h1
        rw [hz] at hy4'
        obtain ⟨v, hv4, hri⟩ := hy4'.one_inv
        subst hv4
        refine sort_one C (.head _) fun D5 j5 s C => ?_
        obtain ⟨t, q1, q2, j, rfl, hmt, hB⟩ := fin D5 [v] j5 s v z rfl hri (by rw [hz]; exact .head _) (fun z' hz' => by rw [hz] at hz'; rw [List.mem_singleton.mp hz']; exact lex_self _) _ C
        with_reducible refine k_int C fun t s C => ?_
        refine it_list C (.head _) (by decide) (by decide) rfl ?_ (by with_unfolding_all rfl)
        with_reducible refine k_int C fun t s C => ?_
        refine it_tup C hmt (by decide) (by decide) rfl rfl ?_ (by with_unfolding_all rfl)
        try walk_at "rt"
        exact kQ _ _ _ _ (hback C fun p hp => .tail _ (.tail _ (hs4 _ (.tail _ (.tail _ hp))))) (fun C => K _ rows _ hg hm (.inr ⟨hff, hB⟩) C)
      · have h0 : (fitK rows y).length ≠ 0 := fun q => hne (List.length_eq_zero_iff.mp q)
        refine sort_rows C (.head _) (hy4'.mono fun p hp => .tail _ hp) (fitK_nodup hg) (by lia) (by lia) fun D5 vs5 j5 s v z e0 R0 hz hmin C => ?_
        obtain ⟨t, q1, q2, j, rfl, hmt⟩ := R0
        with_reducible refine k_int C fun t s C => ?_
        refine it_list C (.head _) (by decide) (by decide) e0 ?_ (by with_unfolding_all rfl)
        with_reducible refine k_int C fun t s C => ?_
        refine it_tup C (.tail _ hmt) (by decide) (by decide) rfl rfl ?_ (by with_unfolding_all rfl)
        try walk_at "rt"
        exact kQ _ _ _ _ (hback C fun p hp => .tail _ (.tail _ (hs4 _ (.tail _ (.tail _ hp))))) (fun C => K _ rows _ hg hm (.inr ⟨hff, .inr ⟨z, q2, rfl, hz, hmin⟩⟩) C)
  · refine ite_t (by rw [decide_eq_false hb0]; rfl) ?_
    replace C := C.drop
    walk_at "xc"
    refine wpAny_Return_some ?_
    refine Call_ ?_
    refine nm_bC C (by k_is) (by boot_fast) ?_ (by decide) rfl rfl (by decide)
    refine PyProof.Rows.callWith_builtin1 ?_
    refine spliced_more ?_
    refine nm_lC C (by walk_at "lk") ?_ rfl rfl (by decide)
    refine spliced_none ?_
    refine b_minl C (.head _) hy3' (List.length_pos_iff.mpr hb0) fun M t s hM1 hM2 C => ?_
    walk_at "ar"
    try walk_at "rt"
    exact kQ _ _ _ _ (hback C fun p hp => hp) (fun C => K _ rows _ hg hm (.inl ⟨M, t, place_min hg hM1 hM2, rfl⟩) C)
end
end Mine
end

section
open PySem PySem.W PySem.Calls PyProof.Rows PyProof.Rows.LCg
namespace Mine
section
variable {prog : Program} {w : World} {c : Cfg} {A : Around} {n : Nat} {m : Loc} {led : Led} {s : Shared} {E : Value → Shared → Prop}
variable {wD : Addr} {oD : Obj} {kvsD : List (Str × Value)} {fA : Addr} {fO : Obj} {vD : Addr} {vO : Obj} {vkvs : List (Int × Value)} {b mn g cur : Int} {fs : List Int} {ss : List (Int × List Int)}
theorem w_set {k : Str} {tk : Tok} {v : Value} {Q : Unit → Shared → Prop} (C : Cx w c A n m led s) (W : WlP prog w led wD oD kvsD fA fO vD vO vkvs b mn g cur fs ss)
    (K : ∀ oD' led' s, DcS prog w wD oD' (stored kvsD k v) → Kp [wD] led led' → (wD, oD') ∈ led' → Cx w c A n m led' s → Q () s) : wpAny (model prog w) A (setItem (.ref wD) (.str k tk) v) Q E s := by
  obtain ⟨led2, C, kp, s2⟩ := C.front W.hD
  exact d_setS C W.dc (by have := W.zn; lia) fun o s d' C => K o _ s d' (fun p hp hn => .tail _ (kp p hp hn)) (.head _) C
theorem WlP.setKeep {led' : Led} (W : WlP prog w led wD oD kvsD fA fO vD vO vkvs b mn g cur fs ss) (C : Cx w c A n m led s) (kp : Kp [wD] led led') : (∀ a o ns, (a, o) ∈ led → SetM w o ns → (a, o) ∈ led') ∧ (vD, vO) ∈ led' ∧ SetsV w led' vkvs ss := by
  have hset : ∀ a o ns, (a, o) ∈ led → SetM w o ns → a ∉ [wD] := by
    intro a o ns hm S
    rw [List.mem_singleton]
    exact C.diff hm W.hD (by rw [S.cls, W.dc.cls]; simp)
  exact ⟨fun a o ns hm S => kp _ hm (hset _ _ _ hm S), kp _ W.hv (by rw [List.mem_singleton]; exact W.ne.symm), W.wv.kp kp hset⟩
theorem WlP.setFree {led' : Led} {oD' : Obj} {f' : Addr} {fO' : Obj} {fs' : List Int} (W : WlP prog w led wD oD kvsD fA fO vD vO vkvs b mn g cur fs ss) (C : Cx w c A n m led s) (kp : Kp [wD] led led') (hD : (wD, oD') ∈ led') (dc : DcS prog w wD oD' (stored kvsD "free" (.ref f'))) (hf : (f', fO') ∈ led) (sf : SetM w fO' fs') :
    WlP prog w led' wD oD' (stored kvsD "free" (.ref f')) f' fO' vD vO vkvs b mn g cur fs' ss := by
  obtain ⟨k1, k2, k3⟩ := W.setKeep C kp
  refine ⟨hD, dc, by rw [stored_len (by rw [W.vf]; rfl)]; exact W.zn, ?_, ?_, ?_, ?_, ?_, ?_, k1 _ _ _ hf sf, sf, k2, W.dv, k3, W.ne⟩
  · rw [valueAt_stored, if_neg (by decide)]; exact W.vb
  · rw [valueAt_stored, if_neg (by decide)]; exact W.vm
  · rw [valueAt_stored, if_neg (by decide)]; exact W.vg
  · rw [valueAt_stored, if_neg (by decide)]; exact W.vc
  · rw [valueAt_stored, if_pos rfl]
  · rw [valueAt_stored, if_neg (by decide)]; exact W.vw
theorem WlP.setCursor {led' : Led} {oD' : Obj} {cur' : Int} {t : Tok} (W : WlP prog w led wD oD kvsD fA fO vD vO vkvs b mn g cur fs ss) (C : Cx w c A n m led s) (kp : Kp [wD] led led') (hD : (wD, oD') ∈ led') (dc : DcS prog w wD oD' (stored kvsD "cursor" (.int cur' t))) :
    WlP prog w led' wD oD' (stored kvsD "cursor" (.int cur' t)) fA fO vD vO vkvs b mn g cur' fs ss := by
  obtain ⟨k1, k2, k3⟩ := W.setKeep C kp
  refine ⟨hD, dc, by rw [stored_len (by obtain ⟨t, e⟩ := W.vc; rw [e]; rfl)]; exact W.zn, ?_, ?_, ?_, ⟨t, ?_⟩, ?_, ?_, k1 _ _ _ W.hf W.sf, W.sf, k2, W.dv, k3, W.ne⟩
  · rw [valueAt_stored, if_neg (by decide)]; exact W.vb
  · rw [valueAt_stored, if_neg (by decide)]; exact W.vm
  · rw [valueAt_stored, if_neg (by decide)]; exact W.vg
  · rw [valueAt_stored, if_pos rfl]
  · rw [valueAt_stored, if_neg (by decide)]; exact W.vf
  · rw [valueAt_stored, if_neg (by decide)]; exact W.vw
theorem WlP.setTxg {led' : Led} {oD' : Obj} {g' : Int} {t : Tok} (W : WlP prog w led wD oD kvsD fA fO vD vO vkvs b mn g cur fs ss) (C : Cx w c A n m led s) (kp : Kp [wD] led led') (hD : (wD, oD') ∈ led') (dc : DcS prog w wD oD' (stored kvsD "txg" (.int g' t))) :
    WlP prog w led' wD oD' (stored kvsD "txg" (.int g' t)) fA fO vD vO vkvs b mn g' cur fs ss := by
  obtain ⟨k1, k2, k3⟩ := W.setKeep C kp
  refine ⟨hD, dc, by rw [stored_len (by obtain ⟨t, e⟩ := W.vg; rw [e]; rfl)]; exact W.zn, ?_, ?_, ⟨t, ?_⟩, ?_, ?_, ?_, k1 _ _ _ W.hf W.sf, W.sf, k2, W.dv, k3, W.ne⟩
  · rw [valueAt_stored, if_neg (by decide)]; exact W.vb
  · rw [valueAt_stored, if_neg (by decide)]; exact W.vm
  · rw [valueAt_stored, if_pos rfl]
  · rw [valueAt_stored, if_neg (by decide)]; exact W.vc
  · rw [valueAt_stored, if_neg (by decide)]; exact W.vf
  · rw [valueAt_stored, if_neg (by decide)]; exact W.vw
theorem WlP.setWaits {led' : Led} {oD' : Obj} {v' : Addr} {vO' : Obj} {vkvs' : List (Int × Value)} {ss' : List (Int × List Int)} (W : WlP prog w led wD oD kvsD fA fO vD vO vkvs b mn g cur fs ss) (C : Cx w c A n m led s) (kp : Kp [wD] led led') (hD : (wD, oD') ∈ led') (dc : DcS prog w wD oD' (stored kvsD "waits" (.ref v')))
    (hv : (v', vO') ∈ led) (hne : wD ≠ v') (dv : DcI prog w v' vO' vkvs') (wv : SetsV w led vkvs' ss') :
    WlP prog w led' wD oD' (stored kvsD "waits" (.ref v')) fA fO v' vO' vkvs' b mn g cur fs ss' := by
  obtain ⟨k1, k2, k3⟩ := W.setKeep C kp
  have hset : ∀ a o ns, (a, o) ∈ led → SetM w o ns → a ∉ [wD] := by
    intro a o ns hm S
    rw [List.mem_singleton]
    exact C.diff hm W.hD (by rw [S.cls, W.dc.cls]; simp)
  refine ⟨hD, dc, by rw [stored_len (by rw [W.vw]; rfl)]; exact W.zn, ?_, ?_, ?_, ?_, ?_, ?_, k1 _ _ _ W.hf W.sf, W.sf, kp _ hv (by rw [List.mem_singleton]; exact hne.symm), dv, wv.kp kp hset, hne⟩
  · rw [valueAt_stored, if_neg (by decide)]; exact W.vb
  · rw [valueAt_stored, if_neg (by decide)]; exact W.vm
  · rw [valueAt_stored, if_neg (by decide)]; exact W.vg
  · rw [valueAt_stored, if_neg (by decide)]; exact W.vc
  · rw [valueAt_stored, if_neg (by decide)]; exact W.vf
  · rw [valueAt_stored, if_pos rfl]
theorem WlP.setDict {led' : Led} {vO' : Obj} {vkvs' : List (Int × Value)} {ss' : List (Int × List Int)} (W : WlP prog w led wD oD kvsD fA fO vD vO vkvs b mn g cur fs ss) (C : Cx w c A n m led s) (kp : Kp [vD] led led') (hv : (vD, vO') ∈ led') (dv : DcI prog w vD vO' vkvs') (wv : SetsV w led vkvs' ss') :
    WlP prog w led' wD oD kvsD fA fO vD vO' vkvs' b mn g cur fs ss' := by
  have hset : ∀ a o ns, (a, o) ∈ led → SetM w o ns → a ∉ [vD] := by
    intro a o ns hm S
    rw [List.mem_singleton]
    exact C.diff hm W.hv (by rw [S.cls, W.dv.cls]; simp)
  exact ⟨kp _ W.hD (by rw [List.mem_singleton]; exact W.ne), W.dc, W.zn, W.vb, W.vm, W.vg, W.vc, W.vf, W.vw, kp _ W.hf (hset _ _ _ W.hf W.sf), W.sf, hv, dv, wv.kp kp hset, W.ne⟩
end
end Mine
end

section
open PySem PySem.W PySem.Calls PyProof.Rows PyProof.Rows.LCg
namespace Mine
inductive WlOut (prog : Program) (w : World) (led led' : Led) (wD vD : Addr) (b mn g cur : Int) (fs : List Int) (ss : List (Int × List Int)) : Prop
  | mk (kp : Kp [wD, vD] led led') (vD' : Addr) (V : WlV prog w led' wD vD' b mn g cur fs ss) (h : vD' = vD ∨ ∀ p ∈ led, p.1 ≠ vD') : WlOut prog w led led' wD vD b mn g cur fs ss
section
variable {prog : Program} {w : World} {c : Cfg} {A : Around} {n : Nat} {m : Loc} {led : Led} {s : Shared} {E : Value → Shared → Prop}
variable {wD : Addr} {oD : Obj} {kvsD : List (Str × Value)} {fA : Addr} {fO : Obj} {vD : Addr} {vO : Obj} {vkvs : List (Int × Value)} {b mn g cur : Int} {fs : List Int} {ss : List (Int × List Int)}
theorem lw_taken {Q : Value → Shared → Prop} {y : Int} {t2 : Tok} (C : Cx w c A (n + 5) m led s) (W : WlP prog w led wD oD kvsD fA fO vD vO vkvs b mn g cur fs ss) (hy : 0 < y) (hy7 : y ≤ 7) (hz : fs.length ≤ 58) (hbd : ∀ x ∈ fs, 0 ≤ x ∧ x < 1000)
    (K0 : ∀ rows s, Rg rows → (∀ x, Mem rows x ↔ x ∈ fs) → PlaceI rows cur y .none → Cx w c A (n + 5) m led s → Q .none s)
    (K1 : ∀ p t rows fs' led' s, Rg rows → (∀ x, Mem rows x ↔ x ∈ fs) → PlaceI rows cur y (.int p t) → WlOut prog w led led' wD vD b mn g (p + y) fs' ss → (∀ x, x ∈ fs' ↔ x ∈ fs ∧ ¬ (p ≤ x ∧ x < p + y)) → Cx w c A (n + 5) m led' s → Q (.int p t) s) :
    wpAny (model prog w) A (call (.ref 310) [.ref wD, .int y t2]) Q E s := by
  refine enter0 (binds := [(Str.ofString "world", .ref wD), (Str.ofString "count", .int y t2)]) C (by k_is) (by k_is) (BindsTo.of_eq rfl) (locs rfl) (fun c A E s C Qr kQ => ?_) rfl rfl rfl (by decide)
  walk_at "xc"
  refine wpAny_Assign_Name ?_
  refine Call_ ?_
  refine nm_g C (by k_is) ?_ rfl rfl (by decide)
  refine cw_more C (by k_is) ?_
  refine spliced_more ?_
  refine nm_l C (by walk_at "lk") ?_ rfl rfl (by decide)
  refine spliced_more ?_
  refine nm_l C (by walk_at "lk") ?_ rfl rfl (by decide)
  refine spliced_none ?_
  refine ⟨C.Xs, ?_⟩
  refine lw_place C W hy hz hbd fun v rows s hg hm hp C => ?_
  refine st_l C (fun s C => ?_) rfl rfl
  have hvi : v = .none ∨ ∃ p t, v = .int p t := by
    rcases hp with ⟨p, t, _, rfl⟩ | ⟨_, ⟨_, rfl⟩ | ⟨z, t, rfl, _, _⟩⟩
    · exact .inr ⟨_, _, rfl⟩
    · exact .inl rfl
    · exact .inr ⟨_, _, rfl⟩
  rcases hvi with rfl | ⟨p, tp, rfl⟩
  · walk_at "xc"
    refine wpAny_If ?_
    refine wpAny_isTrue_Compare1 ?_
    refine nm_l C (by walk_at "lk") ?_ rfl rfl (by decide)
    refine Constant_none ?_
    refine PyProof.Rows.isnot_none_gen ?_
    refine wpAny_truthy_bool ?_
    refine ite_f rfl ?_
    walk_at "xn"
    walk_at "xc"
    refine wpAny_Return_some ?_
    refine nm_l C (by walk_at "lk") ?_ rfl rfl (by decide)
    walk_at "ar"
    try walk_at "rt"
    exact kQ _ _ _ _ C (fun C => K0 rows _ hg hm hp C)
  · walk_at "xc"
    refine wpAny_If ?_
    refine wpAny_isTrue_Compare1 ?_
    refine nm_l C (by walk_at "lk") ?_ rfl rfl (by decide)
    refine Constant_none ?_
    refine PyProof.Rows.isnot_int_none ?_
    refine wpAny_truthy_bool ?_
    refine ite_t rfl ?_
    obtain ⟨hcv, hp0⟩ := place_int hp hg
    have hp1 : p < 1000 := (hbd p ((hm p).mp (hcv p (Int.le_refl _) (by lia)))).2
    walk_at "xc"
    refine wpAny_Assign_Subscript ?_ (by with_unfolding_all rfl)
    refine opv fun _ _ => ?_
    refine wpAny_BinOp ?_
    refine Subscript_ ?_
    refine nm_l C (by walk_at "lk") ?_ rfl rfl (by decide)
    with_reducible refine k_str C fun t s C => ?_
    refine d_itemS C W.hD W.dc W.vf (fun s C => ?_) (by with_unfolding_all rfl)
    refine opv fun _ _ => ?_
    refine Call_ ?_
    refine nm_b C (by k_is) (by boot_fast) ?_ (by decide) rfl rfl (by decide)
    refine PyProof.Rows.callWith_type1 ?_
    refine spliced_more ?_
    refine opv fun _ _ => ?_
    refine Call_ ?_
    refine nm_b C (by k_is) (by boot_fast) ?_ (by decide) rfl rfl (by decide)
    refine PyProof.Rows.callWith_type1 ?_
    refine spliced_more ?_
    refine nm_l C (by walk_at "lk") ?_ rfl rfl (by decide)
    refine spliced_more ?_
    refine wpAny_BinOp ?_
    refine nm_l C (by walk_at "lk") ?_ rfl rfl (by decide)
    refine nm_l C (by walk_at "lk") ?_ rfl rfl (by decide)
    with_reducible refine a_add C fun t s C => ?_
    refine spliced_none ?_
    refine b_range C fun R v s C => ?_
    walk_at "op"
    refine spliced_none ?_
    refine o_range C hp0 (by lia) (by lia) (by lia) (by lia) fun D o vs s S hmS C => ?_
    walk_at "op"
    refine o_sub C (.tail _ W.hf) W.sf (.head _) S hz (by have := bd_len S.nd (fun x hx => (hmS x).mp hx); lia) fun D2 o2 fs2 s S2 hm2 C => ?_
    walk_at "op"
    have W2 := W.mono (led' := (D2, o2) :: (D, o) :: led) fun p hp => .tail _ (.tail _ hp)
    have kk : ∀ p ∈ led, p ∈ (D2, o2) :: (D, o) :: led := fun p hp => .tail _ (.tail _ hp)
    have C2 := C
    refine nm_l C (by walk_at "lk") ?_ rfl rfl (by decide)
    with_reducible refine k_str C fun t s C => ?_
    replace C2 := C
    refine w_set C W2 fun oD3 led3 s dc3 kp3 hD3 C => ?_
    have W3 := W2.setFree C2 kp3 hD3 dc3 (.head _) S2
    have C3 := C
    walk_at "xc"
    refine wpAny_Assign_Subscript ?_ (by with_unfolding_all rfl)
    refine wpAny_BinOp ?_
    refine nm_l C (by walk_at "lk") ?_ rfl rfl (by decide)
    refine nm_l C (by walk_at "lk") ?_ rfl rfl (by decide)
    with_reducible refine a_add C fun t s C => ?_
    refine nm_l C (by walk_at "lk") ?_ rfl rfl (by decide)
    with_reducible refine k_str C fun t s C => ?_
    replace C3 := C
    refine w_set C W3 fun oD4 led4 s dc4 kp4 hD4 C => ?_
    have W4 := W3.setCursor C3 kp4 hD4 dc4
    walk_at "xn"
    walk_at "xc"
    refine wpAny_Return_some ?_
    refine nm_l C (by walk_at "lk") ?_ rfl rfl (by decide)
    walk_at "ar"
    have hkp : Kp [wD, vD] led led4 := fun q hq hn => by
      have hne : q.1 ∉ [wD] := fun e => hn (by rw [List.mem_singleton.mp e]; exact .head _)
      exact kp4 _ (kp3 _ (kk q hq) hne) hne
    try walk_at "rt"
    exact kQ _ _ _ _ C (fun C => K1 p tp rows fs2 _ _ hg hm hp ⟨hkp, vD, ⟨_, _, _, _, _, _, W4⟩, .inl rfl⟩ (fun x => by rw [hm2 x, hmS x]) C)
end
end Mine
end

section
open PySem PySem.W PySem.Calls PyProof.Rows PyProof.Rows.LCg
namespace Mine
theorem mem_cons {p : Int × Int} {a : Rows} {x : Int} : Mem (p :: a) x ↔ (p.1 ≤ x ∧ x < p.2) ∨ Mem a x := by
  rw [show p :: a = [(p.1, p.2)] ++ a from rfl, mem_append, mem_one]
theorem rg_tail_gt {p : Int × Int} {a : Rows} (h : Rg (p :: a)) {x : Int} (hx : Mem a x) : p.2 < x := by
  obtain ⟨r, hr, h1, _⟩ := hx
  have := (List.pairwise_cons.mp h.ap).1 r hr
  lia
theorem rg_uniq : ∀ {a b : Rows}, Rg a → Rg b → (∀ x, Mem a x ↔ Mem b x) → a = b
  | [], [], _, _, _ => rfl
  | [], q :: b, _, hb, h => absurd ((h q.1).mpr (mem_cons.mpr (.inl ⟨Int.le_refl _, hb.ne q (.head _)⟩))) mem_nil
  | p :: a, [], ha, _, h => absurd ((h p.1).mp (mem_cons.mpr (.inl ⟨Int.le_refl _, ha.ne p (.head _)⟩))) mem_nil
  | p :: a, q :: b, ha, hb, h => by
    have np := ha.ne p (.head _)
    have nq := hb.ne q (.head _)
    have e1 : p.1 = q.1 := by
      have h1 := mem_cons.mp ((h p.1).mp (mem_cons.mpr (.inl ⟨Int.le_refl _, np⟩)))
      have h2 := mem_cons.mp ((h q.1).mpr (mem_cons.mpr (.inl ⟨Int.le_refl _, nq⟩)))
      rcases h1 with h1 | h1
      · rcases h2 with h2 | h2
        · lia
        · have := rg_tail_gt ha h2; lia
      · have h3 := rg_tail_gt hb h1
        rcases h2 with h2 | h2
        · lia
        · have := rg_tail_gt ha h2; lia
    have e2 : p.2 = q.2 := by
      rcases Int.lt_trichotomy p.2 q.2 with c | c | c
      · have := mem_cons.mp ((h p.2).mpr (mem_cons.mpr (.inl ⟨by lia, c⟩)))
        rcases this with q | q
        · lia
        · have := rg_tail_gt ha q; lia
      · exact c
      · have := mem_cons.mp ((h q.2).mp (mem_cons.mpr (.inl ⟨by lia, c⟩)))
        rcases this with r | r
        · lia
        · have := rg_tail_gt hb r; lia
    have e : a = b := rg_uniq ha.tail hb.tail fun x => by
      constructor
      · intro hx
        have h1 := rg_tail_gt ha hx
        rcases mem_cons.mp ((h x).mp (mem_cons.mpr (.inr hx))) with q | q
        · lia
        · exact q
      · intro hx
        have h1 := rg_tail_gt hb hx
        rcases mem_cons.mp ((h x).mpr (mem_cons.mpr (.inr hx))) with q | q
        · lia
        · exact q
    rw [e, show p = q from Prod.ext e1 e2]
noncomputable def IsMis (v : Value) : Prop := ∃ t, v = .str "misused" t
noncomputable def SameV (v v' : Value) : Prop := (v = .none ∧ v' = .none) ∨ (∃ p t t', v = .int p t ∧ v' = .int p t') ∨ (IsMis v ∧ IsMis v')
theorem place_same {rows : Rows} {cur y : Int} {v v' : Value} (h : PlaceI rows cur y v) (h' : PlaceI rows cur y v') : SameV v v' := by
  rcases h with ⟨p, t, e, rfl⟩ | ⟨e, hb⟩ <;> rcases h' with ⟨p', t', e', rfl⟩ | ⟨e', hb'⟩
  · rw [e] at e'; cases e'; exact .inr (.inl ⟨p, t, t', rfl, rfl⟩)
  · rw [e] at e'; cases e'
  · rw [e] at e'; cases e'
  · rcases hb with ⟨f, rfl⟩ | ⟨z, t, rfl, hz, hm⟩ <;> rcases hb' with ⟨f', rfl⟩ | ⟨z', t', rfl, hz', hm'⟩
    · exact .inl ⟨rfl, rfl⟩
    · rw [f] at hz'; cases hz'
    · rw [f'] at hz; cases hz
    · have h1 := hm z' hz'
      have h2 := hm' z hz
      have e : z.2 = z'.2 := by
        by_cases q : z' = z
        · rw [q]
        · have := lex_to q h1; rw [h2] at this; cases this
      rw [e]
      exact .inr (.inl ⟨_, t, t', rfl, rfl⟩)
noncomputable def secI (b mn y : Int) : Int := b - 2 + y.fmod (mn + 4)
noncomputable def cntI (z : Int) : Int := 1 + z.fmod 7
inductive StepP (b mn g cur : Int) (F : Int → Prop) (ks : List Int) (W : Int → Int → Prop) (way y z : Int) (v : Value) (cur' : Int) (F' : Int → Prop) (ks' : List Int) (W' : Int → Int → Prop) : Prop
  | a (h : way < 2) (hk : ks' = ks) (hW : ∀ k x, W' k x ↔ W k x) (rows : Rows) (hg : Rg rows) (hm : ∀ x, Mem rows x ↔ F x) (hp : PlaceI rows cur (cntI z) v) (hF : (v = .none ∧ cur' = cur ∧ ∀ x, F' x ↔ F x) ∨ ∃ p t, v = .int p t ∧ cur' = p + cntI z ∧ ∀ x, F' x ↔ F x ∧ ¬ (p ≤ x ∧ x < p + cntI z)) : StepP b mn g cur F ks W way y z v cur' F' ks' W'
  | b (h : way = 2 ∨ way = 3) (hc : cur' = cur) (hF : ∀ x, F' x ↔ F x) (hW : (¬ (∀ x, secI b mn y ≤ x → x < secI b mn y + cntI z → (b ≤ x ∧ x < b + mn) ∧ ¬ F x ∧ ∀ k, ¬ W k x) ∧ IsMis v ∧ ks' = ks ∧ (∀ k x, W' k x ↔ W k x)) ∨
     ((∀ x, secI b mn y ≤ x → x < secI b mn y + cntI z → (b ≤ x ∧ x < b + mn) ∧ ¬ F x ∧ ∀ k, ¬ W k x) ∧ v = .none ∧ ks' = keysG ks g ∧ ∀ k x, W' k x ↔ W k x ∨ (k = g ∧ (secI b mn y ≤ x ∧ x < secI b mn y + cntI z)))) : StepP b mn g cur F ks W way y z v cur' F' ks' W'
  | c (h : way = 4) (hc : cur' = cur) (hk : ks' = ks) (hW : ∀ k x, W' k x ↔ W k x) (hF : (¬ (∀ x, secI b mn y ≤ x → x < secI b mn y + cntI z → F x) ∧ IsMis v ∧ ∀ x, F' x ↔ F x) ∨
     ((∀ x, secI b mn y ≤ x → x < secI b mn y + cntI z → F x) ∧ v = .none ∧ ∀ x, F' x ↔ F x ∧ ¬ (secI b mn y ≤ x ∧ x < secI b mn y + cntI z))) : StepP b mn g cur F ks W way y z v cur' F' ks' W'
  | d (h : way = 5) (hv : v = .none) (hc : cur' = cur) (hk : ks' = ks.filter (fun k => !decide (k + y.fmod 4 ≤ g + 1 + z.fmod 2))) (hW : ∀ k x, W' k x ↔ W k x ∧ ¬ k + y.fmod 4 ≤ g + 1 + z.fmod 2) (hF : ∀ x, F' x ↔ F x ∨ ∃ k, k + y.fmod 4 ≤ g + 1 + z.fmod 2 ∧ W k x) : StepP b mn g cur F ks W way y z v cur' F' ks' W'
  | e (h : way = 6) (hv : v = .none) (hc : cur' = b) (hk : ks' = []) (hW : ∀ k x, ¬ W' k x) (hF : ∀ x, F' x ↔ (b ≤ x ∧ x < b + mn) ∧ ¬ (secI b mn y ≤ x ∧ x < secI b mn y + cntI z)) : StepP b mn g cur F ks W way y z v cur' F' ks' W'
theorem wy01 {way : Int} (h : way < 2) (g : way = 2 ∨ way = 3) : False := by lia
theorem wy02 {way : Int} (h : way < 2) (g : way = 4) : False := by lia
theorem wy03 {way : Int} (h : way < 2) (g : way = 5) : False := by lia
theorem wy04 {way : Int} (h : way < 2) (g : way = 6) : False := by lia
theorem wy12 {way : Int} (h : way = 2 ∨ way = 3) (g : way = 4) : False := by lia
theorem wy13 {way : Int} (h : way = 2 ∨ way = 3) (g : way = 5) : False := by lia
theorem wy14 {way : Int} (h : way = 2 ∨ way = 3) (g : way = 6) : False := by lia
theorem wy23 {way : Int} (h : way = 4) (g : way = 5) : False := by lia
theorem wy24 {way : Int} (h : way = 4) (g : way = 6) : False := by lia
theorem wy34 {way : Int} (h : way = 5) (g : way = 6) : False := by lia
theorem step_same {b mn g cur : Int} {F : Int → Prop} {ks : List Int} {W : Int → Int → Prop} {way y z : Int} {v1 v2 : Value} {c1 c2 : Int} {F1 F2 : Int → Prop} {k1 k2 : List Int} {W1 W2 : Int → Int → Prop}
    (h1 : StepP b mn g cur F ks W way y z v1 c1 F1 k1 W1) (h2 : StepP b mn g cur F ks W way y z v2 c2 F2 k2 W2) : SameV v1 v2 ∧ c1 = c2 ∧ (∀ x, F1 x ↔ F2 x) ∧ k1 = k2 ∧ ∀ k x, W1 k x ↔ W2 k x := by
  rcases h1 with ⟨w1, a1, b1, r1, g1, m1, p1, q1⟩ | ⟨w1, a1, b1, q1⟩ | ⟨w1, a1, b1, d1, q1⟩ | ⟨w1, a1, b1, d1, e1, f1⟩ | ⟨w1, a1, b1, d1, e1, f1⟩ <;>
  rcases h2 with ⟨w2, a2, b2, r2, g2, m2, p2, q2⟩ | ⟨w2, a2, b2, q2⟩ | ⟨w2, a2, b2, d2, q2⟩ | ⟨w2, a2, b2, d2, e2, f2⟩ | ⟨w2, a2, b2, d2, e2, f2⟩ <;> first | exact (wy01 w1 w2).elim | exact (wy01 w2 w1).elim | exact (wy02 w1 w2).elim | exact (wy02 w2 w1).elim | exact (wy03 w1 w2).elim | exact (wy03 w2 w1).elim | exact (wy04 w1 w2).elim | exact (wy04 w2 w1).elim | exact (wy12 w1 w2).elim | exact (wy12 w2 w1).elim | exact (wy13 w1 w2).elim | exact (wy13 w2 w1).elim | exact (wy14 w1 w2).elim | exact (wy14 w2 w1).elim | exact (wy23 w1 w2).elim | exact (wy23 w2 w1).elim | exact (wy24 w1 w2).elim | exact (wy24 w2 w1).elim | exact (wy34 w1 w2).elim | exact (wy34 w2 w1).elim | skip
  · have er : r1 = r2 := rg_uniq g1 g2 fun x => (m1 x).trans (m2 x).symm
    subst er
    have sv := place_same p1 p2
    refine ⟨sv, ?_⟩
    have hW : ∀ k x, W1 k x ↔ W2 k x := fun k x => (b1 k x).trans (b2 k x).symm
    rcases q1 with ⟨rfl, rfl, f1⟩ | ⟨p, t, rfl, rfl, f1⟩ <;> rcases q2 with ⟨rfl, rfl, f2⟩ | ⟨p', t', rfl, rfl, f2⟩
    · exact ⟨rfl, fun x => (f1 x).trans (f2 x).symm, a1.trans a2.symm, hW⟩
    · rcases sv with ⟨_, e⟩ | ⟨_, _, _, e, _⟩ | ⟨⟨_, e⟩, _⟩ <;> cases e
    · rcases sv with ⟨e, _⟩ | ⟨_, _, _, _, e⟩ | ⟨⟨_, e⟩, _⟩ <;> cases e
    · have : p = p' := by
        rcases sv with ⟨e, _⟩ | ⟨_, _, _, e, e'⟩ | ⟨⟨_, e⟩, _⟩
        · cases e
        · cases e; cases e'; rfl
        · cases e
      subst this
      exact ⟨rfl, fun x => (f1 x).trans (f2 x).symm, a1.trans a2.symm, hW⟩
  · have hF : ∀ x, F1 x ↔ F2 x := fun x => (b1 x).trans (b2 x).symm
    rcases q1 with ⟨n1, m1, i1, j1⟩ | ⟨n1, m1, i1, j1⟩ <;> rcases q2 with ⟨n2, m2, i2, j2⟩ | ⟨n2, m2, i2, j2⟩
    · exact ⟨.inr (.inr ⟨m1, m2⟩), a1.trans a2.symm, hF, i1.trans i2.symm, fun k x => (j1 k x).trans (j2 k x).symm⟩
    · exact absurd n2 n1
    · exact absurd n1 n2
    · exact ⟨.inl ⟨m1, m2⟩, a1.trans a2.symm, hF, i1.trans i2.symm, fun k x => (j1 k x).trans (j2 k x).symm⟩
  · have hW : ∀ k x, W1 k x ↔ W2 k x := fun k x => (d1 k x).trans (d2 k x).symm
    rcases q1 with ⟨n1, m1, i1⟩ | ⟨n1, m1, i1⟩ <;> rcases q2 with ⟨n2, m2, i2⟩ | ⟨n2, m2, i2⟩
    · exact ⟨.inr (.inr ⟨m1, m2⟩), a1.trans a2.symm, fun x => (i1 x).trans (i2 x).symm, b1.trans b2.symm, hW⟩
    · exact absurd n2 n1
    · exact absurd n1 n2
    · exact ⟨.inl ⟨m1, m2⟩, a1.trans a2.symm, fun x => (i1 x).trans (i2 x).symm, b1.trans b2.symm, hW⟩
  · exact ⟨.inl ⟨a1, a2⟩, b1.trans b2.symm, fun x => (f1 x).trans (f2 x).symm, d1.trans d2.symm, fun k x => (e1 k x).trans (e2 k x).symm⟩
  · exact ⟨.inl ⟨a1, a2⟩, b1.trans b2.symm, fun x => (f1 x).trans (f2 x).symm, d1.trans d2.symm, fun k x => ⟨fun q => absurd q (e1 k x), fun q => absurd q (e2 k x)⟩⟩
structure InvP (b mn g : Int) (F : Int → Prop) (ks : List Int) (W : Int → Int → Prop) (N : Nat) : Prop where
  F : ∀ x, F x → b ≤ x ∧ x < b + mn
  W : ∀ k x, W k x → b ≤ x ∧ x < b + mn
  asc : ks.Pairwise (· < ·)
  le : ∀ k ∈ ks, k ≤ g
  len : ks.length ≤ N
theorem step_inv {b mn g cur : Int} {F : Int → Prop} {ks : List Int} {W : Int → Int → Prop} {way y z : Int} {v : Value} {c' : Int} {F' : Int → Prop} {ks' : List Int} {W' : Int → Int → Prop} {N : Nat}
    (h : StepP b mn g cur F ks W way y z v c' F' ks' W') (I : InvP b mn g F ks W N) : InvP b mn (if way = 5 then g + 1 + z.fmod 2 else g) F' ks' W' (N + 1) := by
  have hz2 : 0 ≤ z.fmod 2 := Int.fmod_nonneg_of_pos _ (by decide)
  rcases h with ⟨w1, a1, b1, r1, g1, m1, p1, q1⟩ | ⟨w1, a1, b1, q1⟩ | ⟨w1, a1, b1, d1, q1⟩ | ⟨w1, a1, b1, d1, e1, f1⟩ | ⟨w1, a1, b1, d1, e1, f1⟩
  · rw [if_neg (by lia)]
    subst a1
    refine ⟨fun x hx => ?_, fun k x hx => I.W k x ((b1 k x).mp hx), I.asc, I.le, Nat.le_succ_of_le I.len⟩
    rcases q1 with ⟨_, _, f⟩ | ⟨_, _, _, _, f⟩
    · exact I.F x ((f x).mp hx)
    · exact I.F x ((f x).mp hx).1
  · rw [if_neg (by omega)]
    rcases q1 with ⟨_, _, rfl, j⟩ | ⟨n1, _, rfl, j⟩
    · exact ⟨fun x hx => I.F x ((b1 x).mp hx), fun k x hx => I.W k x ((j k x).mp hx), I.asc, I.le, Nat.le_succ_of_le I.len⟩
    · refine ⟨fun x hx => I.F x ((b1 x).mp hx), fun k x hx => ?_, ?_, ?_, ?_⟩
      · rcases (j k x).mp hx with q | q
        · exact I.W k x q
        · exact (n1 x q.2.1 q.2.2).1
      · unfold keysG
        split
        · exact I.asc
        · rename_i hn
          rw [List.pairwise_append]
          refine ⟨I.asc, List.pairwise_singleton _ _, fun a ha c hc => ?_⟩
          rw [List.mem_singleton.mp hc]
          have := I.le a ha
          have : a ≠ g := fun e => hn (e ▸ ha)
          lia
      · intro k hk
        unfold keysG at hk
        split at hk
        · exact I.le k hk
        · rcases List.mem_append.mp hk with q | q
          · exact I.le k q
          · rw [List.mem_singleton.mp q]; exact Int.le_refl _
      · unfold keysG
        have := I.len
        split
        · lia
        · rw [List.length_append, List.length_singleton]; lia
  · rw [if_neg (by lia)]
    subst b1
    refine ⟨fun x hx => ?_, fun k x hx => I.W k x ((d1 k x).mp hx), I.asc, I.le, Nat.le_succ_of_le I.len⟩
    rcases q1 with ⟨_, _, f⟩ | ⟨_, _, f⟩
    · exact I.F x ((f x).mp hx)
    · exact I.F x ((f x).mp hx).1
  · rw [if_pos w1]
    subst d1
    refine ⟨fun x hx => ?_, fun k x hx => I.W k x ((e1 k x).mp hx).1, I.asc.sublist List.filter_sublist, fun k hk => ?_, Nat.le_succ_of_le (Nat.le_trans (List.length_filter_le _ _) I.len)⟩
    · rcases (f1 x).mp hx with q | ⟨k, _, q⟩
      · exact I.F x q
      · exact I.W k x q
    · have := I.le k (List.mem_filter.mp hk).1
      lia
  · rw [if_neg (by lia)]
    subst d1
    exact ⟨fun x hx => ((f1 x).mp hx).1, fun k x hx => absurd hx (e1 k x), .nil, fun k hk => (nomatch hk), Nat.zero_le _⟩
end Mine
end

section
open PySem PySem.W PySem.Calls PyProof.Rows PyProof.Rows.LCg
namespace Mine
noncomputable def MemS (ss : List (Int × List Int)) (k x : Int) : Prop := ∃ ns, (k, ns) ∈ ss ∧ x ∈ ns
theorem putS_keys {ss : List (Int × List Int)} {k : Int} {ns : List Int} : (putS ss k ns).map (·.1) = keysG (ss.map (·.1)) k := by
  unfold putS keysG
  by_cases h : (ss.any fun p => p.1 = k) = true
  · obtain ⟨p, hp, e⟩ := List.any_eq_true.mp h
    rw [if_pos h, if_pos (List.mem_map.mpr ⟨p, hp, by simpa using e⟩), List.map_map]
    refine List.map_congr_left fun q _ => ?_
    show (if q.1 = k then (q.1, ns) else q).1 = q.1
    split <;> rfl
  · rw [if_neg h, if_neg, List.map_append]; rfl
    intro q
    obtain ⟨p, hp, e⟩ := List.mem_map.mp q
    exact h (List.any_eq_true.mpr ⟨p, hp, decide_eq_true e⟩)
theorem memS_put {ss : List (Int × List Int)} {k : Int} {ns : List Int} {P : Int → Prop} (hm : ∀ x, x ∈ ns ↔ MemS ss k x ∨ P x) (k' x : Int) : MemS (putS ss k ns) k' x ↔ MemS ss k' x ∨ (k' = k ∧ P x) := by
  unfold putS
  by_cases h : (ss.any fun p => p.1 = k) = true
  · rw [if_pos h]
    obtain ⟨p, hp, e⟩ := List.any_eq_true.mp h
    have e : p.1 = k := by simpa using e
    constructor
    · rintro ⟨ns', h1, h2⟩
      obtain ⟨q, hq, e1⟩ := List.mem_map.mp h1
      by_cases c : q.1 = k
      · rw [if_pos c] at e1
        cases e1
        rcases (hm x).mp h2 with z | z
        · exact .inl (by rw [c]; exact z)
        · exact .inr ⟨c, z⟩
      · rw [if_neg c] at e1
        subst e1
        exact .inl ⟨ns', hq, h2⟩
    · intro z
      by_cases c : k' = k
      · subst c
        refine ⟨ns, List.mem_map.mpr ⟨p, hp, by rw [if_pos e, e]⟩, (hm x).mpr (z.imp id fun z => z.2)⟩
      · rcases z with ⟨ns', h1, h2⟩ | z
        · exact ⟨ns', List.mem_map.mpr ⟨_, h1, by rw [if_neg c]⟩, h2⟩
        · exact absurd z.1 c
  · rw [if_neg h]
    have hno : ∀ x, ¬ MemS ss k x := fun x ⟨ns', h1, _⟩ => h (List.any_eq_true.mpr ⟨_, h1, by simp⟩)
    constructor
    · rintro ⟨ns', h1, h2⟩
      rcases List.mem_append.mp h1 with h1 | h1
      · exact .inl ⟨ns', h1, h2⟩
      · cases List.mem_singleton.mp h1
        exact .inr ⟨rfl, ((hm x).mp h2).resolve_left (hno x)⟩
    · rintro (⟨ns', h1, h2⟩ | ⟨rfl, z⟩)
      · exact ⟨ns', List.mem_append_left _ h1, h2⟩
      · exact ⟨ns, List.mem_append_right _ (.head _), (hm x).mpr (.inr z)⟩
theorem memS_filter {ss : List (Int × List Int)} {e k x : Int} : MemS (ss.filter fun p => decide (p.1 ≠ e)) k x ↔ MemS ss k x ∧ k ≠ e := by
  unfold MemS
  constructor
  · rintro ⟨r, h, q⟩
    obtain ⟨h1, h2⟩ := List.mem_filter.mp h
    exact ⟨⟨r, h1, q⟩, by simpa using h2⟩
  · rintro ⟨⟨r, h, q⟩, n⟩
    exact ⟨r, List.mem_filter.mpr ⟨h, by simpa using n⟩, q⟩
theorem memS_at {ss : List (Int × List Int)} (hn : (ss.map (·.1)).Nodup) {i : Nat} (hi : i < ss.length) {x : Int} : MemS ss (ss[i]).1 x ↔ x ∈ (ss[i]).2 := by
  constructor
  · rintro ⟨r, h, q⟩
    obtain ⟨j, hj, e⟩ := List.getElem_of_mem h
    have : j = i := nodup_key hn hj hi (by rw [e])
    subst this
    rw [e]; exact q
  · exact fun q => ⟨_, List.getElem_mem hi, q⟩
theorem keysS_filter (ss : List (Int × List Int)) (e : Int) : (ss.filter fun p => decide (p.1 ≠ e)).map (·.1) = (ss.map (·.1)).filter fun k => decide (k ≠ e) := by
  rw [List.filter_map]; rfl
noncomputable def upto (b mn : Int) : List Int := (List.range mn.toNat).map fun (i : Nat) => b + (i : Int)
theorem upto_len {b mn : Int} : (upto b mn).length = mn.toNat := by simp [upto]
theorem upto_mem {b mn x : Int} (h : b ≤ x ∧ x < b + mn) : x ∈ upto b mn := List.mem_map.mpr ⟨(x - b).toNat, List.mem_range.mpr (by omega), by lia⟩
theorem SetM.same {w : World} {o : Obj} {ns ms : List Int} (h : SetM w o ns) (g : SetM w o ms) (k : Int) : k ∈ ns ↔ k ∈ ms := by
  obtain ⟨_, es, ep, t, hd, D⟩ := h
  obtain ⟨_, es', ep', t', hd', D'⟩ := g
  rw [hd] at hd'
  cases hd'
  rw [← D.keys.mem_iff, D'.keys.mem_iff]
section
variable {prog : Program} {w : World} {c : Cfg} {A : Around} {n : Nat} {m : Loc} {led : Led} {s : Shared} {E : Value → Shared → Prop}
open SetTable Builtin.Frozenset in
theorem set_or_same {a : Addr} {oA : Obj} {ns : List Int} {Q : Value → Shared → Prop} (ha : s.heap.get? a = some oA) (SA : SetM w oA ns) (hz : ns.length ≤ 58)
    (h : NewSet w s (fun k => k ∈ ns) Q) : wpAny (model prog w) A (binaryOp .BitOr (.ref a) (.ref a)) Q E s := by
  refine wpAny_binaryOp_same (SA.type ha) (SA.type ha) PySem.F.fills_set_or PySem.F.slot_set_or (wpAny_call_entry PySem.F.slot_set_or (SA.type ha) entry_set_or ?_ (PySem.F.args_set_or_2 _ _))
  unfold Builtin.«frozenset.__or__»
  wp_delta
  refine wpAny_bind (m := slot1 "__or__" _) (wpAny_pure ?_)
  dsimp only
  simp only [Bool.false_eq_true, if_false]
  refine wpAny_bind (m := (isAnySet (.ref a) <&&> isAnySet (.ref a))) ?_
  refine wpAny_bind (m := isAnySet (.ref a)) (set_any ha SA ?_)
  refine set_any ha SA ?_
  simp only [Bool.not_true, Bool.false_eq_true, if_false]
  refine wpAny_bind (m := addrOf _) (wpAny_pure ?_)
  refine wpAny_bind ?_
  wp_delta
  refine wpAny_bind (set_copy ha SA (by lia) fun h1 D o1 vs k1 g1 e1 S1 m1 => ?_)
  rw [if_neg (by simp)]
  exact wpAny_pure (wpAny_pure ⟨_, rfl, by simp, h h1 D o1 vs k1 g1 e1 S1 m1⟩)
theorem o_or' {a b : Addr} {oA oB : Obj} {ns ms U : List Int} {Q : Value → Shared → Prop} (C : Cx w c A n m led s) (ha : (a, oA) ∈ led) (SA : SetM w oA ns) (hb : (b, oB) ∈ led) (SB : SetM w oB ms) (hU : ∀ k, k ∈ ns ∨ k ∈ ms → k ∈ U) (hz : U.length ≤ 58)
    (h : ∀ D o vs s, SetM w o vs → (∀ k, k ∈ vs ↔ k ∈ ns ∨ k ∈ ms) → Cx w c A n m ((D, o) :: led) s → Q (.ref D) s) : wpAny (model prog w) A (binaryOp .BitOr (.ref a) (.ref b)) Q E s := by
  by_cases hne : a = b
  · subst hne
    have e := C.one ha hb
    subst e
    have ln := sub_len SA.nd fun k hk => hU k (.inl hk)
    exact set_or_same (C.get ha) SA (by lia) (C.newS fun D o vs s S hm C => h D o vs s S (fun k => by rw [hm k]; exact ⟨.inl, fun q => q.elim id (SA.same SB k).mpr⟩) C)
  · exact o_or C hne ha SA hb SB hU hz h
theorem t_or {e1 e2 : PySem.Expr} {env : Env} {whole : Sem Value} {pos : Pos} {p q : Bool} {Q : Bool → Shared → Prop} (C : Cx w c A n m led s)
    (h1 : ∀ s (R : Bool → Shared → Prop), Cx w c A n m led s → (∀ s, Cx w c A n m led s → R p s) → wpAny (model prog w) A (isTrue e1 env (eval e1 env)) R E s)
    (h2 : ∀ s (R : Bool → Shared → Prop), Cx w c A n m led s → (∀ s, Cx w c A n m led s → R q s) → wpAny (model prog w) A (isTrue e2 env (eval e2 env)) R E s)
    (k : ∀ s, Cx w c A n m led s → Q (p || q) s) : wpAny (model prog w) A (isTrue (.BoolOp .Or [e1, e2] pos) env whole) Q E s := by
  refine isTrue_or (h1 _ _ C fun s C => ?_)
  cases p with
  | true => exact k _ C
  | false =>
    refine isTrue_or (h2 _ _ C fun s C => ?_)
    cases q with
    | true => exact k _ C
    | false => exact isTrue_or_nil (k _ C)
theorem as_sub {env : Env} {o i : PySem.Expr} {pos : Pos} {v : Value} {Q : Unit → Shared → Prop} (h : wpAny (model prog w) A (eval o env) (fun ov s₂ => wpAny (model prog w) A (eval i env) (fun iv s₃ =>
      wpAny (model prog w) A (setItem ov iv v) Q E s₃) E s₂) E s) : wpAny (model prog w) A (assign (.Subscript o i pos) env v) Q E s := kas_sub h
theorem as_tup {env : Env} {elts : List PySem.Expr} {k : Nat} {pos : Pos} {t : Addr} {items : Array Value} {j : Nat} {Q : Unit → Shared → Prop} (C : Cx w c A n m led s) (hm : (t, ({ cls := .type "tuple", data := .seq items j } : Obj)) ∈ led)
    (hn : (assignEach elts env).length = items.size) (hstar : (assignEach elts env).findIdx? (·.1) = none)
    (h : ∀ s, Cx w c A n m led s → wpAny (model prog w) A (assignInOrder ((assignEach elts env).map (·.2)) items.toList) Q E s) : wpAny (model prog w) A (assign (.Tuple elts k pos) env (.ref t)) Q E s :=
  unpackN_ C.F C.N ⟨_, C.get hm, rfl, j, rfl⟩ C.hh hn hstar fun _ F' N' => h _ (C.step F' N' C.nd)
end
end Mine
end

section
open PySem PySem.W PySem.Calls PyProof.Rows PyProof.Rows.LCg
namespace Mine
theorem sets_get {w : World} {led : Led} {kvs : List (Int × Value)} {ss : List (Int × List Int)} (V : SetsV w led kvs ss) (hn : (kvs.map (·.1)).Nodup) (k : Int) {D : Addr} {o : Obj} (hD : (D, o) ∈ led) (S : SetM w o []) :
    ∃ a oa ns, (valueAt kvs k).getD (.ref D) = .ref a ∧ (a, oa) ∈ led ∧ SetM w oa ns ∧ ∀ x, x ∈ ns ↔ MemS ss k x := by
  by_cases h : ∃ i, ∃ hi : i < ss.length, (ss[i]).1 = k
  · obtain ⟨i, hi, e⟩ := h
    obtain ⟨a, oa, e1, ha, Sa⟩ := V.at2 i hi
    have hv := valueAt_get hn e1
    rw [e] at hv
    refine ⟨a, oa, _, by rw [hv]; rfl, ha, Sa, fun x => ?_⟩
    rw [← e]; exact (memS_at (by rw [← V.keys]; exact hn) hi).symm
  · have hno : ∀ p ∈ ss, p.1 ≠ k := fun p hp q => by
      obtain ⟨i, hi, e⟩ := List.getElem_of_mem hp
      exact h ⟨i, hi, by rw [e]; exact q⟩
    have hv : valueAt kvs k = none := by
      rw [← Option.isNone_iff_eq_none, ← Option.not_isSome, valueAt_isSome_eq_any, V.any]
      simpa using hno
    refine ⟨D, o, [], by rw [hv]; rfl, hD, S, fun x => ⟨fun q => absurd q List.not_mem_nil, ?_⟩⟩
    rintro ⟨ns, h1, _⟩
    exact absurd rfl (hno _ h1)
section
variable {prog : Program} {w : World} {c : Cfg} {A : Around} {n : Nat} {m : Loc} {led : Led} {s : Shared} {E : Value → Shared → Prop}
variable {wD : Addr} {oD : Obj} {kvsD : List (Str × Value)} {fA : Addr} {fO : Obj} {vD : Addr} {vO : Obj} {vkvs : List (Int × Value)} {b mn g cur : Int} {fs : List Int} {ss : List (Int × List Int)}
theorem v_set {k : Int} {tk : Tok} {v : Value} {Q : Unit → Shared → Prop} (C : Cx w c A n m led s) (W : WlP prog w led wD oD kvsD fA fO vD vO vkvs b mn g cur fs ss) (hz : ss.length ≤ 1000)
    (K : ∀ vO' led' s, DcI prog w vD vO' (stored vkvs k v) → Kp [vD] led led' → (vD, vO') ∈ led' → Cx w c A n m led' s → Q () s) : wpAny (model prog w) A (setItem (.ref vD) (.int k tk) v) Q E s := by
  obtain ⟨led2, C, kp, s2⟩ := C.front W.hv
  exact d_set C W.dv (by rw [W.wv.len]; exact hz) fun o s d' C => K o _ s d' (fun p hp hn => .tail _ (kp p hp hn)) (.head _) C
theorem v_pop {k : Int} {tk : Tok} {v : Value} {Q : Value → Shared → Prop} (C : Cx w c A n m led s) (W : WlP prog w led wD oD kvsD fA fO vD vO vkvs b mn g cur fs ss) (hz : ss.length ≤ 1000) (hl : valueAt vkvs k = some v)
    (K : ∀ vO' led' s, DcI prog w vD vO' (without vkvs k) → Kp [vD] led led' → (vD, vO') ∈ led' → Cx w c A n m led' s → Q v s) : wpAny (model prog w) A (call (.builtin "dict.pop") [.ref vD, .int k tk]) Q E s := by
  obtain ⟨led2, C, kp, s2⟩ := C.front W.hv
  exact d_pop C W.dv hl (by rw [W.wv.len]; exact hz) fun o s d' C => K o _ s d' (fun p hp hn => .tail _ (kp p hp hn)) (.head _) C
theorem Cx.wlup {p : Addr × Obj} (_C : Cx w c A n m (p :: led) s) (W : WlP prog w led wD oD kvsD fA fO vD vO vkvs b mn g cur fs ss) : WlP prog w (p :: led) wD oD kvsD fA fO vD vO vkvs b mn g cur fs ss := W.mono fun _ h => .tail _ h
theorem kp2 {led led1 led2 : Led} {a b' : Addr} (h : Kp [a] led led1) (g : Kp [b'] led1 led2) : Kp [a, b'] led led2 :=
  h.trans g (fun _ q => by rw [List.mem_singleton.mp q]; exact .head _) (fun _ q => by rw [List.mem_singleton.mp q]; exact .tail _ (.head _))
theorem Kp.sub {as bs : List Addr} {led led' : Led} (h : Kp as led led') (hs : ∀ a ∈ as, a ∈ bs) : Kp bs led led' := fun p hp hn => h p hp fun q => hn (hs _ q)
theorem Kp.pre {as : List Addr} {l0 led led' : Led} (h : Kp as led led') (hs : ∀ p ∈ l0, p ∈ led) : Kp as l0 led' := fun p hp hn => h p (hs p hp) hn
end
end Mine
end

section
open PySem PySem.W PySem.Calls PyProof.Rows PyProof.Rows.LCg
namespace Mine
section
variable {prog : Program} {w : World} {c : Cfg} {A : Around} {n : Nat} {m : Loc} {led : Led} {s : Shared} {E : Value → Shared → Prop}
variable {wD : Addr} {oD : Obj} {kvsD : List (Str × Value)} {fA : Addr} {fO : Obj} {vD : Addr} {vO : Obj} {vkvs : List (Int × Value)} {b mn g cur : Int} {fs : List Int} {ss : List (Int × List Int)}
inductive J22 (prog : Program) (w : World) (led : Led) (wD vD S : Addr) (vs : List Value) (js : Nat) (b mn g cur y : Int) (t2 : Tok) (fs : List Int) (ss : List (Int × List Int)) (i : Nat) (m' : Loc) (led' : Led) : Prop
  | mk (m1 : m' (Str.ofString "world") = some (.ref wD)) (m2 : m' (Str.ofString "y") = some (.int y t2)) (kp : Kp [wD, vD] ((S, lstO vs js) :: led) led') (hS : (S, lstO vs js) ∈ led') (fs' : List Int) (ss' : List (Int × List Int)) (V : WlV prog w led' wD vD b mn g cur fs' ss') (hI : SetI (ss.map (·.1)) (y.fmod 4) g (· ∈ fs) (MemS ss) i (· ∈ fs') (ss'.map (·.1)) (MemS ss')) : J22 prog w led wD vD S vs js b mn g cur y t2 fs ss i m' led'
theorem lw_due {Q : Value → Shared → Prop} {way y z : Int} {t1 t2 t3 : Tok} (C : Cx w c A (n + 6) m led s) (W : WlP prog w led wD oD kvsD fA fO vD vO vkvs b mn g cur fs ss) (hb : 3 ≤ b) (hmn : 0 < mn) (hm40 : mn ≤ 40) (hbm : b + mn ≤ 900) (hw0 : 0 ≤ way) (hw6 : way ≤ 6) {N : Nat} (hN : N ≤ 60)
    (I : InvP b mn g (· ∈ fs) (ss.map (·.1)) (MemS ss) N)
    (K : ∀ v cur' fs' ss' led' s, StepP b mn g cur (· ∈ fs) (ss.map (·.1)) (MemS ss) way y z v cur' (· ∈ fs') (ss'.map (·.1)) (MemS ss') → WlOut prog w led led' wD vD b mn (if way = 5 then g + 1 + z.fmod 2 else g) cur' fs' ss' → Cx w c A (n + 6) m led' s → Q v s) :
    wpAny (model prog w) A (call (.ref 331) [.ref wD, .int way t1, .int y t2, .int z t3]) Q E s := by
  obtain ⟨tb, vb⟩ := W.vb
  obtain ⟨tm, vm⟩ := W.vm
  obtain ⟨tg, vg⟩ := W.vg
  have hfl := bd_len W.sf.nd I.F
  have hy0 : 0 ≤ y.fmod (mn + 4) := Int.fmod_nonneg_of_pos _ (by lia)
  have hy1 : y.fmod (mn + 4) < mn + 4 := Int.fmod_lt_of_pos _ (by lia)
  have hz0 : 0 ≤ z.fmod 7 := Int.fmod_nonneg_of_pos _ (by decide)
  have hz1 : z.fmod 7 < 7 := Int.fmod_lt_of_pos _ (by decide)
  refine enter0 (binds := [(Str.ofString "world", .ref wD), (Str.ofString "way", .int way t1), (Str.ofString "y", .int y t2), (Str.ofString "z", .int z t3)]) C (by k_is) (by k_is) (BindsTo.of_eq rfl) (locs rfl) (fun c A E s C Qr kQ => ?_) rfl rfl rfl (by decide)
  walk_at "xc"
  refine Assign_Tuple_swapped (names := [Str.ofString "sector", Str.ofString "count"]) ?_
  refine opv fun _ _ => ?_
  refine Tuple_ ?_
  refine spliced_more ?_
  refine opv fun _ _ => ?_
  refine wpAny_BinOp ?_
  refine wpAny_BinOp ?_
  refine Subscript_ ?_
  refine nm_l C (by walk_at "lk") ?_ rfl rfl (by decide)
  with_reducible refine k_str C fun t s C => ?_
  refine d_itemS C W.hD W.dc vb (fun s C => ?_) (by with_unfolding_all rfl)
  with_reducible refine k_int C fun t s C => ?_
  with_reducible refine a_sub C fun t s C => ?_
  refine opv fun _ _ => ?_
  refine wpAny_BinOp ?_
  refine nm_l C (by walk_at "lk") ?_ rfl rfl (by decide)
  refine wpAny_BinOp ?_
  refine Subscript_ ?_
  refine nm_l C (by walk_at "lk") ?_ rfl rfl (by decide)
  with_reducible refine k_str C fun t s C => ?_
  refine d_itemS C W.hD W.dc vm (fun s C => ?_) (by with_unfolding_all rfl)
  with_reducible refine k_int C fun t s C => ?_
  with_reducible refine a_add C fun t s C => ?_
  refine a_mod C (by lia) fun t s C => ?_
  walk_at "op"
  with_reducible refine a_add C fun t s C => ?_
  walk_at "op"
  refine spliced_more ?_
  refine wpAny_BinOp ?_
  with_reducible refine k_int C fun t s C => ?_
  refine wpAny_BinOp ?_
  refine nm_l C (by walk_at "lk") ?_ rfl rfl (by decide)
  with_reducible refine k_int C fun t s C => ?_
  with_reducible refine a_mod C (by decide) fun t s C => ?_
  with_reducible refine a_add C fun t s C => ?_
  refine spliced_none ?_
  refine mk_tup C (Nat.le_of_ble_eq_true rfl) fun D s C => ?_
  walk_at "op"
  refine unpack_tup C (.head _) rfl fun s C => ?_
  replace C := C.drop
  refine assignInOrder_cons ?_
  refine bd_l C (fun s C => ?_) rfl rfl
  refine assignInOrder_cons ?_
  refine bd_l C (fun s C => ?_) rfl rfl
  refine assignInOrder_nil ?_
  rw [show b - 2 + y.fmod (mn + 4) = secI b mn y from rfl, show 1 + z.fmod 7 = cntI z from rfl] at C
  have hsec : 1 ≤ secI b mn y ∧ secI b mn y ≤ b + mn + 1 := by unfold secI; omega
  have hcnt : 1 ≤ cntI z ∧ cntI z ≤ 7 := by unfold cntI; lia
  generalize hse : secI b mn y = sec at *
  generalize hce : cntI z = cnt at *
  walk_at "xc"
  refine wpAny_Assign_Name ?_
  refine opv fun _ _ => ?_
  refine Call_ ?_
  refine nm_b C (by k_is) (by boot_fast) ?_ (by decide) rfl rfl (by decide)
  refine PyProof.Rows.callWith_type1 ?_
  refine spliced_more ?_
  refine opv fun _ _ => ?_
  refine Call_ ?_
  refine nm_b C (by k_is) (by boot_fast) ?_ (by decide) rfl rfl (by decide)
  refine PyProof.Rows.callWith_type1 ?_
  refine spliced_more ?_
  refine nm_l C (by walk_at "lk") ?_ rfl rfl (by decide)
  refine spliced_more ?_
  refine wpAny_BinOp ?_
  refine nm_l C (by walk_at "lk") ?_ rfl rfl (by decide)
  refine nm_l C (by walk_at "lk") ?_ rfl rfl (by decide)
  with_reducible refine a_add C fun t s C => ?_
  refine spliced_none ?_
  refine b_range C fun R v s C => ?_
  walk_at "op"
  refine spliced_none ?_
  refine o_range C (by lia) (by lia) (by lia) (by lia) (by lia) fun D o ns s S hmS C => ?_
  walk_at "op"
  refine st_l C (fun s C => ?_) rfl rfl
  have hnl := bd_len S.nd (fun x hx => (hmS x).mp hx)
  have W1 := W.mono (led' := (D, o) :: led) fun p hp => .tail _ hp
  have C1 := C
  walk_at "xc"
  refine wpAny_If ?_
  refine wpAny_isTrue_Compare1 ?_
  refine nm_l C (by walk_at "lk") ?_ rfl rfl (by decide)
  with_reducible refine k_int C fun t s C => ?_
  refine lt_int ?_
  refine wpAny_truthy_bool ?_
  refine ite_dec (fun hw => ?_) (fun hw => ?_)
  · walk_at "xc"
    refine wpAny_Return_some ?_
    refine Call_ ?_
    refine nm_g C (by k_is) ?_ rfl rfl (by decide)
    refine cw_more C (by k_is) ?_
    refine spliced_more ?_
    refine nm_l C (by walk_at "lk") ?_ rfl rfl (by decide)
    refine spliced_more ?_
    refine nm_l C (by walk_at "lk") ?_ rfl rfl (by decide)
    refine spliced_none ?_
    refine ⟨C.Xs, ?_⟩
    refine lw_taken C W1 (by lia) (by lia) (by lia) (fun x hx => by have := I.F x hx; lia) (fun rows s hg hm hp C => ?_) (fun p t rows fs' led' s hg hm hp WO hf C => ?_)
    walk_at "ar"
    · try walk_at "rt"
      refine kQ _ _ _ _ C.drop (fun C => K .none cur fs ss led _ (.a hw rfl (fun _ _ => Iff.rfl) rows hg hm (by rw [hce]; exact hp) (.inl ⟨rfl, rfl, fun _ => Iff.rfl⟩)) ⟨Kp.rfl' _ _, vD, ⟨_, _, _, _, _, _, by rw [if_neg (by lia)]; exact W⟩, .inl rfl⟩ C)
    · obtain ⟨kp, vD', WV, hvD⟩ := WO
      try walk_at "rt"
      refine kQ _ _ _ _ C (fun C => K _ (p + cnt) fs' ss led' _ (.a hw rfl (fun _ _ => Iff.rfl) rows hg hm (by rw [hce]; exact hp) (.inr ⟨p, t, rfl, by rw [hce], fun x => by rw [hce]; exact hf x⟩)) ⟨fun q hq hn => kp q (.tail _ hq) hn, vD', by rw [if_neg (by omega)]; exact WV, hvD.imp id fun h q hq => h q (.tail _ hq)⟩ C)
  · walk_at "xn"
    walk_at "xc"
    refine wpAny_If ?_
    refine t_or C (p := way == 2) (q := way == 3) (fun s R C k => ?_) (fun s R C k => ?_) fun s C => ?_
    · refine wpAny_isTrue_Compare1 ?_
      refine nm_l C (by walk_at "lk") ?_ rfl rfl (by decide)
      with_reducible refine k_int C fun t s C => ?_
      refine eq_int ?_
      refine wpAny_truthy_bool ?_
      exact k _ C
    · refine wpAny_isTrue_Compare1 ?_
      refine nm_l C (by walk_at "lk") ?_ rfl rfl (by decide)
      with_reducible refine k_int C fun t s C => ?_
      refine eq_int ?_
      refine wpAny_truthy_bool ?_
      exact k _ C
    have hIW : ∀ p ∈ ss, ∀ x ∈ p.2, b ≤ x ∧ x < b + mn := fun p hp x hx => I.W p.1 x ⟨p.2, hp, hx⟩
    by_cases h23 : way = 2 ∨ way = 3
    · refine ite_t (by rcases h23 with h | h <;> rw [h] <;> rfl) ?_
      walk_at "xc"
      refine wpAny_If ?_
      refine opv fun _ _ => ?_
      refine isTrue_not ?_
      refine wpAny_isTrue_Compare1 ?_
      refine nm_l C (by walk_at "lk") ?_ rfl rfl (by decide)
      refine Call_ ?_
      refine nm_g C (by k_is) ?_ rfl rfl (by decide)
      refine cw_more C (by k_is) ?_
      refine spliced_more ?_
      refine nm_l C (by walk_at "lk") ?_ rfl rfl (by decide)
      refine spliced_none ?_
      refine ⟨C.Xs, ?_⟩
      refine lw_given C W1 (by lia) (by lia) (by lia) (by lia) I.F hIW fun D2 o2 vs2 led2 s k2 hD2 S2 hm2 C => ?_
      refine o_le C (k2 _ (.head _)) S hD2 S2 (by have := bd_len S2.nd (fun x hx => ((hm2 x).mp hx).1); lia) fun v hv => ?_
      refine wpAny_truthy_bool ?_
      walk_at "op"
      have hgiv : v = true ↔ ∀ x, sec ≤ x → x < sec + cnt → (b ≤ x ∧ x < b + mn) ∧ ¬ x ∈ fs ∧ ∀ k, ¬ MemS ss k x := by
        rw [hv]
        constructor
        · intro h x h1 h2
          obtain ⟨q1, q2, q3⟩ := (hm2 x).mp (h x ((hmS x).mpr ⟨h1, h2⟩))
          exact ⟨q1, q2, fun k ⟨ns', h4, h5⟩ => q3 _ h4 h5⟩
        · intro h x hx
          have h1 := (hmS x).mp hx
          obtain ⟨q1, q2, q3⟩ := h x h1.1 h1.2
          exact (hm2 x).mpr ⟨q1, q2, fun p hp hx => q3 p.1 ⟨p.2, hp, hx⟩⟩
      have W2 := W1.mono k2
      cases v with
      | false =>
        refine ite_t rfl ?_
        walk_at "xc"
        refine wpAny_Return_some ?_
        with_reducible refine k_str C fun t s C => ?_
        walk_at "ar"
        try walk_at "rt"
        refine kQ _ _ _ _ C (fun C => K _ cur fs ss led2 _ (.b h23 rfl (fun _ => Iff.rfl) (.inl ⟨?_, ⟨_, rfl⟩, rfl, fun _ _ => Iff.rfl⟩)) ⟨fun q hq hn => k2 q (.tail _ hq), vD, ⟨_, _, _, _, _, _, by rw [if_neg (by omega)]; exact W2⟩, .inl rfl⟩ C)
        rw [hse, hce]
        exact fun q => Bool.false_ne_true (hgiv.mpr q)
      | true =>
        refine ite_f rfl ?_
        walk_at "xn"
        have hgiv := hgiv.mp rfl
        have hDne : ∀ p ∈ led, p.1 ≠ D := C1.ne
        obtain ⟨tg2, vg2⟩ := W2.vg
        walk_at "xc"
        refine wpAny_Assign_Subscript ?_ (by with_unfolding_all rfl)
        refine opv fun _ _ => ?_
        refine wpAny_BinOp ?_
        refine opv fun _ _ => ?_
        refine MethodCall_ ?_
        refine Subscript_ ?_
        refine nm_l C (by walk_at "lk") ?_ rfl rfl (by decide)
        with_reducible refine k_str C fun t s C => ?_
        refine d_itemS C W2.hD W2.dc W2.vw (fun s C => ?_) (by with_unfolding_all rfl)
        refine dm_get C W2.hv W2.dv ?_
        refine callWith_method1 ?_
        refine spliced_more ?_
        refine Subscript_ ?_
        refine nm_l C (by walk_at "lk") ?_ rfl rfl (by decide)
        with_reducible refine k_str C fun t s C => ?_
        refine d_itemS C W2.hD W2.dc vg2 (fun s C => ?_) (by with_unfolding_all rfl)
        refine spliced_more ?_
        refine Call_ ?_
        refine nm_b C (by k_is) (by boot_fast) ?_ (by decide) rfl rfl (by decide)
        refine callWith_type0 ?_
        refine o_set0 C fun D3 o3 s S3 C => ?_
        refine spliced_none ?_
        have W3 := W2.mono (led' := (D3, o3) :: led2) fun p hp => .tail _ hp
        refine d_get2 C W3.hv W3.dv fun s C => ?_
        walk_at "op"
        refine nm_l C (by walk_at "lk") ?_ rfl rfl (by decide)
        obtain ⟨a5, o5, ns5, e5, h5, S5, hm5⟩ := sets_get W3.wv W3.dv.nodup g (.head _) S3
        rw [e5]
        refine o_or' C h5 S5 (.tail _ (k2 _ (.head _))) S (U := upto b mn) (fun x hx => upto_mem (hx.elim (fun q => I.W _ _ ((hm5 x).mp q)) fun q => (hgiv x ((hmS x).mp q).1 ((hmS x).mp q).2).1)) (by rw [upto_len]; lia) fun D4 o4 ns4 s S4 hm4 C => ?_
        walk_at "op"
        have W4 := W3.mono (led' := (D4, o4) :: (D3, o3) :: led2) fun p hp => .tail _ hp
        refine Subscript_ ?_
        refine nm_l C (by walk_at "lk") ?_ rfl rfl (by decide)
        with_reducible refine k_str C fun t s C => ?_
        refine d_itemS C W4.hD W4.dc W4.vw (fun s C => ?_) (by with_unfolding_all rfl)
        refine Subscript_ ?_
        refine nm_l C (by walk_at "lk") ?_ rfl rfl (by decide)
        with_reducible refine k_str C fun t s C => ?_
        refine d_itemS C W4.hD W4.dc vg2 (fun s C => ?_) (by with_unfolding_all rfl)
        have C4 := C
        refine v_set C W4 (by have := I.len; rw [List.length_map] at this; lia) fun vO5 led5 s dv5 kp5 hv5 C => ?_
        have W5 := W4.setDict C4 kp5 hv5 dv5 (W4.wv.stored (.head _) S4)
        walk_at "xn"
        walk_at "xc"
        refine wpAny_Return_some ?_
        refine Constant_none ?_
        walk_at "ar"
        try walk_at "rt"
        refine kQ _ _ _ _ C (fun C => K _ cur fs (putS ss g ns4) led5 _ (.b h23 rfl (fun _ => Iff.rfl) (.inr ⟨by rw [hse, hce]; exact hgiv, rfl, putS_keys, fun k x => ?_⟩)) ⟨(kp5.pre fun q hq => .tail _ (.tail _ (k2 q (.tail _ hq)))).sub fun a ha => by rw [List.mem_singleton.mp ha]; exact .tail _ (.head _), vD, ⟨_, _, _, _, _, _, by rw [if_neg (by omega)]; exact W5⟩, .inl rfl⟩ C)
        rw [hse, hce]
        exact memS_put (fun x => by rw [hm4 x, hm5 x, hmS x]) k x
    · refine ite_f (by rw [not_or] at h23; simp [h23.1, h23.2]) ?_
      walk_at "xc"
      refine wpAny_If ?_
      refine wpAny_isTrue_Compare1 ?_
      refine nm_l C (by walk_at "lk") ?_ rfl rfl (by decide)
      with_reducible refine k_int C fun t s C => ?_
      refine eq_int ?_
      refine wpAny_truthy_bool ?_
      refine ite_dec (fun hw4 => ?_) (fun hw4 => ?_)
      · walk_at "xc"
        refine wpAny_If ?_
        refine opv fun _ _ => ?_
        refine isTrue_not ?_
        refine wpAny_isTrue_Compare1 ?_
        refine nm_l C (by walk_at "lk") ?_ rfl rfl (by decide)
        refine Subscript_ ?_
        refine nm_l C (by walk_at "lk") ?_ rfl rfl (by decide)
        with_reducible refine k_str C fun t s C => ?_
        refine d_itemS C W1.hD W1.dc W1.vf (fun s C => ?_) (by with_unfolding_all rfl)
        refine o_le C (.head _) S W1.hf W1.sf (by lia) fun v hv => ?_
        refine wpAny_truthy_bool ?_
        walk_at "op"
        have hfre : v = true ↔ ∀ x, sec ≤ x → x < sec + cnt → x ∈ fs := by
          rw [hv]
          exact ⟨fun h x h1 h2 => h x ((hmS x).mpr ⟨h1, h2⟩), fun h x hx => h x ((hmS x).mp hx).1 ((hmS x).mp hx).2⟩
        cases v with
        | false =>
          refine ite_t rfl ?_
          walk_at "xc"
          refine wpAny_Return_some ?_
          with_reducible refine k_str C fun t s C => ?_
          walk_at "ar"
          try walk_at "rt"
          refine kQ _ _ _ _ C.drop (fun C => K _ cur fs ss led _ (.c hw4 rfl rfl (fun _ _ => Iff.rfl) (.inl ⟨?_, ⟨_, rfl⟩, fun _ => Iff.rfl⟩)) ⟨Kp.rfl' _ _, vD, ⟨_, _, _, _, _, _, by rw [if_neg (by lia)]; exact W⟩, .inl rfl⟩ C)
          rw [hse, hce]
          exact fun q => Bool.false_ne_true (hfre.mpr q)
        | true =>
          refine ite_f rfl ?_
          walk_at "xn"
          have hfre := hfre.mp rfl
          walk_at "xc"
          refine wpAny_Assign_Subscript ?_ (by with_unfolding_all rfl)
          refine wpAny_BinOp ?_
          refine Subscript_ ?_
          refine nm_l C (by walk_at "lk") ?_ rfl rfl (by decide)
          with_reducible refine k_str C fun t s C => ?_
          refine d_itemS C W1.hD W1.dc W1.vf (fun s C => ?_) (by with_unfolding_all rfl)
          refine nm_l C (by walk_at "lk") ?_ rfl rfl (by decide)
          refine o_sub C W1.hf W1.sf (.head _) S (by omega) (by lia) fun D2 o2 fs2 s S2 hm2 C => ?_
          have W2 := W1.mono (led' := (D2, o2) :: (D, o) :: led) fun p hp => .tail _ hp
          refine nm_l C (by walk_at "lk") ?_ rfl rfl (by decide)
          with_reducible refine k_str C fun t s C => ?_
          have C2 := C
          refine w_set C W2 fun oD3 led3 s dc3 kp3 hD3 C => ?_
          have W3 := W2.setFree C2 kp3 hD3 dc3 (.head _) S2
          walk_at "xn"
          walk_at "xn"
          walk_at "xc"
          refine wpAny_Return_some ?_
          refine Constant_none ?_
          walk_at "ar"
          try walk_at "rt"
          refine kQ _ _ _ _ C (fun C => K _ cur fs2 ss led3 _ (.c hw4 rfl rfl (fun _ _ => Iff.rfl) (.inr ⟨by rw [hse, hce]; exact hfre, rfl, fun x => by rw [hse, hce]; show x ∈ fs2 ↔ x ∈ fs ∧ _; rw [hm2 x, hmS x]⟩)) ⟨(kp3.pre fun q hq => .tail _ (.tail _ hq)).sub fun a ha => by rw [List.mem_singleton.mp ha]; exact .head _, vD, ⟨_, _, _, _, _, _, by rw [if_neg (by omega)]; exact W3⟩, .inl rfl⟩ C)
      · walk_at "xc"
        refine wpAny_If ?_
        refine wpAny_isTrue_Compare1 ?_
        refine nm_l C (by walk_at "lk") ?_ rfl rfl (by decide)
        with_reducible refine k_int C fun t s C => ?_
        refine eq_int ?_
        refine wpAny_truthy_bool ?_
        refine ite_dec (fun hw5 => ?_) (fun hw5 => ?_)
        · walk_at "xc"
          refine wpAny_Assign_Subscript ?_ (by with_unfolding_all rfl)
          obtain ⟨tg1, vg1⟩ := W1.vg
          refine opv fun _ _ => ?_
          refine wpAny_BinOp ?_
          refine wpAny_BinOp ?_
          refine Subscript_ ?_
          refine nm_l C (by walk_at "lk") ?_ rfl rfl (by decide)
          with_reducible refine k_str C fun t s C => ?_
          refine d_itemS C W1.hD W1.dc vg1 (fun s C => ?_) (by with_unfolding_all rfl)
          with_reducible refine k_int C fun t s C => ?_
          with_reducible refine a_add C fun t s C => ?_
          refine wpAny_BinOp ?_
          refine nm_l C (by walk_at "lk") ?_ rfl rfl (by decide)
          with_reducible refine k_int C fun t s C => ?_
          with_reducible refine a_mod C (by decide) fun t s C => ?_
          with_reducible refine a_add C fun t s C => ?_
          walk_at "op"
          refine nm_l C (by walk_at "lk") ?_ rfl rfl (by decide)
          with_reducible refine k_str C fun t s C => ?_
          have C2 := C
          refine w_set C W1 fun oD3 led3 s dc3 kp3 hD3 C => ?_
          have W3 := W1.setTxg C2 kp3 hD3 dc3
          rw [if_pos hw5] at K
          have k03 : Kp [wD] led led3 := kp3.pre fun q hq => .tail _ hq
          generalize hge : g + 1 + z.fmod 2 = gg at *
          walk_at "xc"
          refine wpAny_For ?_
          have hsl : ss.length ≤ 60 := by have := I.len; rw [List.length_map] at this; lia
          have hkk := W3.wv.keys
          have hkn : (ss.map (·.1)).Nodup := hkk ▸ W3.dv.nodup
          refine Call_ ?_
          refine nm_b C (by k_is) (by boot_fast) ?_ (by decide) rfl rfl (by decide)
          refine PyProof.Rows.callWith_builtin1 ?_
          refine spliced_more ?_
          refine Subscript_ ?_
          refine nm_l C (by walk_at "lk") ?_ rfl rfl (by decide)
          with_reducible refine k_str C fun t s C => ?_
          refine d_itemS C W3.hD W3.dc W3.vw (fun s C => ?_) (by with_unfolding_all rfl)
          refine spliced_none ?_
          refine d_sorted C W3.hv W3.dv (by rw [W3.wv.len]; lia) (by rw [hkk]; exact I.asc.imp fun h => Int.le_of_lt h) fun S' vs js s hvs C => ?_
          rw [hkk] at hvs
          have hSf := C.ne
          have W4 := W3.mono (led' := (S', lstO vs js) :: led3) fun p hp => .tail _ hp
          refine iter_list C (.head _) fun It o' s hIt C => ?_
          have hvl := IntsAre.length hvs
          refine for_list C hIt (J22 prog w led3 wD vD S' vs js b mn gg cur y t2 fs ss)
            (fun i m' led' h => by obtain ⟨_, _, _, h⟩ := h; exact h) ⟨by walk_at "lk", by walk_at "lk", Kp.rfl' _ _, .head _, fs, ss, ⟨_, _, _, _, _, _, W4⟩, seti_nil _ _ _ _ _⟩ (fun v hv => lets_name) ?_ ?_
          · rintro i m' led' s v E' oi hvi ⟨m1, m2, kp, hS', fs', ss', ⟨oD', kvsD', fA', fO', vO', vkvs', W'⟩, hI'⟩ hIo C T kN kR
            obtain ⟨hi, t, rfl⟩ := ints_get hvs hvi
            generalize hee : (ss.map (·.1))[i] = e
            have hIne := C.ne
            have W1' := W'.mono (led' := (It, oi) :: led') fun p hp => .tail _ hp
            obtain ⟨tg', vg'⟩ := W'.vg
            refine wpAny_assign_Name (st_l C (fun s C => ?_) rfl rfl)
            walk_at "xc"
            refine wpAny_If ?_
            refine opv fun _ _ => ?_
            refine wpAny_isTrue_Compare1 ?_
            refine wpAny_BinOp ?_
            refine nm_l C (by walk_at "lk") ?_ rfl rfl (by decide)
            refine wpAny_BinOp ?_
            refine nm_l C (by walk_at "lk") ?_ rfl rfl (by decide)
            with_reducible refine k_int C fun t s C => ?_
            with_reducible refine a_mod C (by decide) fun t s C => ?_
            with_reducible refine a_add C fun t s C => ?_
            refine Subscript_ ?_
            refine nm_l C (by walk_at "lk") ?_ rfl rfl (by decide)
            with_reducible refine k_str C fun t s C => ?_
            refine d_itemS C W1'.hD W1'.dc vg' (fun s C => ?_) (by with_unfolding_all rfl)
            refine le_int ?_
            refine wpAny_truthy_bool ?_
            walk_at "op"
            refine ite_dec (fun hdue => ?_) (fun hdue => ?_)
            · obtain ⟨j, hj, hje⟩ : ∃ j, ∃ hj : j < ss'.length, (ss'[j]).1 = e := by
                have : e ∈ ss'.map (·.1) := by rw [← hee]; exact hI'.mem hi
                obtain ⟨p, hp, q⟩ := List.mem_map.mp this
                obtain ⟨j, hj, rfl⟩ := List.getElem_of_mem hp
                exact ⟨j, hj, q⟩
              have hwn' : (ss'.map (·.1)).Nodup := W'.wv.keys ▸ W'.dv.nodup
              obtain ⟨a5, o5, e5, h5, S5⟩ := W'.wv.at2 j hj
              have hval := valueAt_get W'.dv.nodup e5
              rw [hje] at hval
              have hsl' : ss'.length ≤ 1000 := by have := hI'.len; rw [List.length_map, List.length_map] at this; lia
              have hFU : ∀ x, x ∈ fs' ∨ x ∈ (ss'[j]).2 → x ∈ upto b mn := fun x hx => upto_mem (hx.elim (fun q => ((hI'.hF x).mp q).elim (I.F x) fun ⟨k, _, _, q⟩ => I.W k x q) fun q => I.W e x ((hI'.hW e x).mp (hje ▸ (memS_at hwn' hj).mpr q)).1)
              walk_at "xc"
              refine wpAny_Assign_Subscript ?_ (by with_unfolding_all rfl)
              refine opv fun _ _ => ?_
              refine wpAny_BinOp ?_
              refine Subscript_ ?_
              refine nm_l C (by walk_at "lk") ?_ rfl rfl (by decide)
              with_reducible refine k_str C fun t s C => ?_
              refine d_itemS C W1'.hD W1'.dc W1'.vf (fun s C => ?_) (by with_unfolding_all rfl)
              refine opv fun _ _ => ?_
              refine MethodCall_ ?_
              refine Subscript_ ?_
              refine nm_l C (by walk_at "lk") ?_ rfl rfl (by decide)
              with_reducible refine k_str C fun t s C => ?_
              refine d_itemS C W1'.hD W1'.dc W1'.vw (fun s C => ?_) (by with_unfolding_all rfl)
              refine dm_pop C W1'.hv W1'.dv ?_
              refine callWith_method1 ?_
              refine spliced_more ?_
              refine nm_l C (by walk_at "lk") ?_ rfl rfl (by decide)
              refine spliced_none ?_
              have C6 := C
              refine v_pop C W1' hsl' hval fun vO6 led6 s dv6 kp6 hv6 C => ?_
              walk_at "op"
              have W6 := W1'.setDict C6 kp6 hv6 dv6 (W1'.wv.drop_key e)
              have h5' : (a5, o5) ∈ led6 := kp6 _ (.tail _ h5) (by rw [List.mem_singleton]; exact C6.diff (.tail _ h5) W1'.hv (by rw [S5.cls, W1'.dv.cls]; simp))
              refine o_or' C W6.hf W6.sf h5' S5 hFU (by rw [upto_len]; lia) fun D7 o7 fs7 s S7 hm7 C => ?_
              walk_at "op"
              have W7 := W6.mono (led' := (D7, o7) :: led6) fun p hp => .tail _ hp
              refine nm_l C (by walk_at "lk") ?_ rfl rfl (by decide)
              with_reducible refine k_str C fun t s C => ?_
              have C7 := C
              refine w_set C W7 fun oD8 led8 s dc8 kp8 hD8 C => ?_
              have W8 := W7.setFree C7 kp8 hD8 dc8 (.head _) S7
              walk_at "xn"
              walk_at "xn"
              have k68 : Kp [vD, wD] ((It, oi) :: led') led8 := kp2 kp6 (kp8.pre fun p hp => .tail _ hp)
              have hItw : It ≠ wD := fun q => hIne _ W'.hD q.symm
              have hItv : It ≠ vD := fun q => hIne _ W'.hv q.symm
              have hI8 : (It, oi) ∈ led8 := k68 _ (.head _) (by simp [hItw, hItv])
              have C8 := C
              obtain ⟨led9, C9, kp9, s9⟩ := C.front hI8
              have W9 := W8.kp C8 kp9 (fun a ha => by rw [List.mem_singleton.mp ha]; exact ⟨oi, hI8, by rw [hIo.1]; simp⟩) (by rw [List.mem_singleton]; exact hItw.symm) (by rw [List.mem_singleton]; exact hItv.symm)
              have step : ∀ p ∈ led', p.1 ∉ [wD, vD] → p ∈ led9 := fun p hp hn => kp9 _ (k68 _ (.tail _ hp) (by simp only [List.mem_cons, List.not_mem_nil, or_false, not_or] at hn ⊢; exact ⟨hn.2, hn.1⟩)) (by rw [List.mem_singleton]; exact hIne p hp)
              refine kN _ _ led9 C9 ⟨by walk_at "lk", by walk_at "lk", fun p hp hn => step p (kp p hp hn) hn, step _ hS' (by simp only [List.mem_cons, List.not_mem_nil, or_false, not_or]; exact ⟨fun q => hSf _ W3.hD q.symm, fun q => hSf _ W3.hv q.symm⟩), fs7, _, ⟨_, _, _, _, _, _, W9⟩, seti_due hkn hi (by rw [hee]; exact hdue) hI' (fun x => ?_) (by rw [keysS_filter, hee]) fun k x => by rw [memS_filter, hee]⟩
              rw [hm7 x, hee, ← hje, memS_at hwn' hj]
            · walk_at "xn"
              walk_at "xn"
              exact kN _ _ led' C ⟨by walk_at "lk", by walk_at "lk", kp, hS', fs', ss', ⟨_, _, _, _, _, _, W'⟩, seti_not hi (by rw [hee]; exact hdue) hI'⟩
          · rintro m' led' s E' ⟨m1, m2, kp, hS', fs', ss', WV, hI'⟩ C
            walk_at "xn"
            walk_at "xn"
            walk_at "xn"
            walk_at "xn"
            walk_at "xc"
            refine wpAny_Return_some ?_
            refine Constant_none ?_
            walk_at "ar"
            obtain ⟨q1, q2, q3⟩ := SetI.fin (N := vs.length) hI' (by rw [hvl]; exact Nat.le_refl _) fun k x hk => by obtain ⟨rr, h1, _⟩ := hk; exact List.mem_map.mpr ⟨_, h1, rfl⟩
            try walk_at "rt"
            refine kQ _ _ _ _ C (fun C => K _ cur fs' ss' led' _ (.d hw5 rfl rfl (by rw [hge]; exact q1) (fun k x => by rw [hge]; exact q2 k x) (fun x => by rw [hge]; exact q3 x)) ⟨fun p hp hn => kp _ (.tail _ (k03 p hp fun q => hn (by rw [List.mem_singleton.mp q]; exact .head _))) hn, vD, WV, .inl rfl⟩ C)
        · have h6 : way = 6 := by rw [not_or] at h23; lia
          walk_at "xc"
          refine Assign_Tuple ?_ (by with_unfolding_all rfl) (by with_unfolding_all rfl)
          refine opv fun _ _ => ?_
          refine Tuple_ ?_
          refine spliced_more ?_
          refine wpAny_BinOp ?_
          refine Call_ ?_
          refine nm_g C (by k_is) ?_ rfl rfl (by decide)
          refine cw_more C (by k_is) ?_
          refine spliced_more ?_
          refine nm_l C (by walk_at "lk") ?_ rfl rfl (by decide)
          refine spliced_none ?_
          refine ⟨C.Xs, ?_⟩
          refine lw_all C W1 (by omega) hmn hm40 (by omega) fun D2 o2 vs2 s S2 hm2 C => ?_
          refine nm_l C (by walk_at "lk") ?_ rfl rfl (by decide)
          refine o_sub C (.head _) S2 (.tail _ (.head _)) S (by have := bd_len S2.nd (fun x hx => (hm2 x).mp hx); lia) (by lia) fun D3 o3 fs3 s S3 hm3 C => ?_
          refine spliced_more ?_
          refine mk_dict C fun D4 o4 s dv4 C => ?_
          refine spliced_more ?_
          refine Subscript_ ?_
          refine nm_l C (by walk_at "lk") ?_ rfl rfl (by decide)
          with_reducible refine k_str C fun t s C => ?_
          have hD4 := C.ne
          have W4 := W1.mono (led' := (D4, o4) :: (D3, o3) :: (D2, o2) :: (D, o) :: led) fun p hp => .tail _ (.tail _ (.tail _ hp))
          refine d_itemS C W4.hD W4.dc vb (fun s C => ?_) (by with_unfolding_all rfl)
          refine spliced_none ?_
          refine mk_tup C (Nat.le_of_ble_eq_true rfl) fun T s C => ?_
          walk_at "op"
          have W5 := C.wlup W4
          have hwD4 : wD ≠ D4 := fun q => hD4 _ (.tail _ (.tail _ (.tail _ W.hD))) q
          refine as_tup C (.head _) rfl rfl fun s C => ?_
          refine assignInOrder_cons ?_
          refine as_sub ?_
          refine nm_l C (by walk_at "lk") ?_ rfl rfl (by decide)
          with_reducible refine k_str C fun t s C => ?_
          have C5 := C
          refine w_set C W5 fun oD6 led6 s dc6 kp6 hD6 C => ?_
          have W6 := W5.setFree C5 kp6 hD6 dc6 (.tail _ (.tail _ (.head _))) S3
          have h46 := kp6 _ (.tail _ (.head _)) (by rw [List.mem_singleton]; exact hwD4.symm)
          refine assignInOrder_cons ?_
          refine as_sub ?_
          refine nm_l C (by walk_at "lk") ?_ rfl rfl (by decide)
          with_reducible refine k_str C fun t s C => ?_
          have C6 := C
          refine w_set C W6 fun oD7 led7 s dc7 kp7 hD7 C => ?_
          have W7 := W6.setWaits (vkvs' := []) (ss' := []) C6 kp7 hD7 dc7 h46 hwD4 dv4 trivial
          refine assignInOrder_cons ?_
          refine as_sub ?_
          refine nm_l C (by walk_at "lk") ?_ rfl rfl (by decide)
          with_reducible refine k_str C fun t s C => ?_
          have C7 := C
          refine w_set C W7 fun oD8 led8 s dc8 kp8 hD8 C => ?_
          have W8 := W7.setCursor C7 kp8 hD8 dc8
          refine assignInOrder_nil ?_
          walk_at "xn"
          walk_at "xn"
          walk_at "xn"
          walk_at "xc"
          refine wpAny_Return_some ?_
          refine Constant_none ?_
          walk_at "ar"
          have kk : Kp [wD] led led8 := fun p hp hn => kp8 _ (kp7 _ (kp6 _ (.tail _ (.tail _ (.tail _ (.tail _ (.tail _ hp))))) hn) hn) hn
          try walk_at "rt"
          refine kQ _ _ _ _ C (fun C => K _ b fs3 [] led8 _ (.e h6 rfl rfl rfl (fun k x q => ?_) (fun x => ?_)) ⟨kk.sub fun a ha => by rw [List.mem_singleton.mp ha]; exact .head _, D4, ⟨_, _, _, _, _, _, by rw [if_neg (by lia)]; exact W8⟩, .inr fun p hp => hD4 _ (.tail _ (.tail _ (.tail _ hp)))⟩ C)
          · obtain ⟨_, q1, _⟩ := q
            cases q1
          · rw [hse, hce]
            show x ∈ fs3 ↔ _
            rw [hm3 x, hm2 x, hmS x]
end
end Mine
end

section
open PySem PySem.W PySem.Calls PyProof.Rows PyProof.Rows.LCg
namespace Mine
theorem given_iff {b mn a y : Int} {free : Rows} {ws : List (Int × Rows)} (hy : 0 < y) : (∀ x, a ≤ x → x < a + y → (b ≤ x ∧ x < b + mn) ∧ ¬ Mem free x ∧ ∀ k, ¬ MemW ws k x) ↔ GivenI b mn free ws a y := by
  constructor
  · intro h
    refine ⟨(h a (Int.le_refl _) (by lia)).1.1, by have := (h (a + y - 1) (by lia) (by lia)).1.2; lia, fun ⟨x, h1, h2, h3⟩ => (h x h1 h2).2.1 h3, fun p hp ⟨x, h1, h2, h3⟩ => (h x h1 h2).2.2 p.1 ⟨p.2, hp, h3⟩⟩
  · rintro ⟨h1, h2, h3, h4⟩ x h5 h6
    exact ⟨by lia, fun q => h3 ⟨x, h5, h6, q⟩, fun k ⟨rr, q1, q2⟩ => h4 _ q1 ⟨x, h5, h6, q2⟩⟩
section
variable {prog : Program} {w : World} {c : Cfg} {A : Around} {n : Nat} {m : Loc} {led : Led} {s : Shared} {E : Value → Shared → Prop}
theorem SlOut.pre {l0 led' : Led} {x : Addr} {b mn cur : Int} {own : List Addr} {free : Rows} {ws : List (Int × Rows)} (h : SlOut prog w led led' x b mn cur own free ws) (hs : ∀ p ∈ l0, p ∈ led) : SlOut prog w l0 led' x b mn cur own free ws :=
  let ⟨k, o, v, q⟩ := h; ⟨k.pre hs, o, v, fun a ha => (q a ha).imp id fun z p hp => z p (hs p hp)⟩
theorem try_T {c' : Cfg} {A' : Around} {n' : Nat} {m' : Loc} {nm : Str} {sc : Scope} {a : Addr} {cd : Value} {np pos tpos : Pos} {b₀ : Stmt} {body suite orelse : List Stmt} {rest : List ExceptHandler} {Q : Flow → Shared → Prop}
    (_C : Cx w c' A' n' m' led s) (R : Loc → Prop) (t : TC w c m A c') (hA : A' = A.deeper (envOf nm sc c'.L a cd)) (henv : c'.env = envOf nm sc c'.L a cd)
    (h : ∀ (Qb : Flow → Shared → Prop) (Eb : Value → Shared → Prop), (∀ v s, Q (.ret v) s → Qb (.ret v) s) → (∀ m₁ s₀ e s', Cx w c' A' n' m₁ led s₀ → XP c' m₁ led e s' → R m₁ → Eb (.ref e) s') → wpAny (model prog w) A' (execs body (envOf nm sc c'.L a cd)) Qb Eb s)
    (k : ∀ m₁ c'' e s'', TC w c m A c'' → c''.L = c'.L → c''.env = c'.env → Cx w c'' A' n' m₁ led s'' → R m₁ → wpAny (model prog w) (A'.mark (some (.ref e))) (execs (b₀ :: suite) (envOf nm sc c'.L a cd)) Q (fun _ _ => False) s'')
    (hk : sc.kind = .function) (hl : (envOf nm sc c'.L a cd).kindOf (Str.ofString "Misused") = some .globalImplicit) :
    wpAny (model prog w) A' (exec (.Try body (.ExceptHandler (some (.Name (Str.ofString "Misused") np)) none (b₀ :: suite) pos :: rest) orelse [] tpos) (envOf nm sc c'.L a cd)) Q E s :=
  wpAny_mono (wpAny_Try_except (h (fun f s₁ => match f with | .next => wpAny (model prog w) A' (execs orelse (envOf nm sc c'.L a cd)) Q (fun _ _ => False) s₁ | f => Q f s₁) _ (fun _ _ q => q) fun m₁ s₀ e s' C₀ X r => x_catch t C₀ hA henv X (fun c'' s'' a b d C => k m₁ c'' e s'' a b d C r) hk hl)) (fun _ _ q => q) fun _ _ q => q.elim
theorem nm_lA {A₂ : Around} {L : Addr} {nm : Str} {sc : Scope} {a : Addr} {cd : Value} {x : Str} {pos : Pos} {v : Value} {Q : Value → Shared → Prop} (C : Cx w c A n m led s) (hL : c.L = L) (hv : m x = some v) (k : Q v s)
    (hk : sc.kind = .function) (hl : (envOf nm sc L a cd).kindOf x = some .local) (hd : (x == ("__debug__" : Str)) = false) :
    wpAny (model prog w) A₂ (eval (.Name x pos) (envOf nm sc L a cd)) Q E s := by subst hL; exact ld C.F hv k hk hl hd
theorem mt_appendA {A₂ : Around} {l : Addr} {items : List Value} {k : Nat} {pl : Sem Bool} {Q : Value × List Value → Shared → Prop} (C : Cx w c A n m led s) (hm : (l, lstO items k) ∈ led) (h : Q (.builtin "list.append", [.ref l]) s) : wpAny (model prog w) A₂ (getMethod (.ref l) (Str.ofString "append") pl) Q E s :=
  getMethod_list_append (C.get hm) rfl rfl h
theorem b_appendA {A₂ : Around} {l : Addr} {items : List Value} {k : Nat} {x : Value} {Q : Value → Shared → Prop} (C : Cx w c A n m ((l, lstO items k) :: led) s) (hz : items.length ≤ 100000) (h : ∀ s, Cx w c A n m ((l, lstO (items ++ [x]) (k + 1)) :: led) s → Q .none s) : wpAny (model prog w) A₂ (call (.builtin "list.append") [.ref l, x]) Q E s :=
  append_at (C.get (.head _)) (fun h' hs ho => h _ (C.set hs (by rw [show (lstO (items ++ [x]) (k + 1)) = { cls := .type "list", data := .seq (items.toArray.push x) (k + 1) } from by simp]; exact ho))) (by rw [List.size_toArray, sizeLine_eq]; lia)
noncomputable def IsTuI (o : Obj) (t : Addr) (i : Nat) : Prop := o.cls = .type "tuple_iterator" ∧ o.data = .fields #[.ref t, .int (i : Nat) 0]
theorem iter_tup2 {t : Addr} {vs : List Value} {j : Nat} {Q : Value → Shared → Prop} (C : Cx w c A n m led s) (ht : (t, tupO vs j) ∈ led) (h : ∀ I o s, IsTuI o t 0 → Cx w c A n m ((I, o) :: led) s → Q (.ref I) s) : wpAny (model prog w) A (pyIter (.ref t)) Q E s :=
  wpAny_pyIter_tuple ⟨_, C.get ht, rfl, j, rfl⟩ (h _ _ _ ⟨rfl, rfl⟩ (C.new (s' := { s with heap := s.heap.push _ }) (fun _ _ e => Heap.get?_push_of_some _ e) (Heap.get?_push_size _ rfl) rfl))
inductive ForC (w : World) (A : Around) (n : Nat) (I : Addr) (N : Nat) (It : Obj → Nat → Prop) (J : Nat → Cfg → Loc → Led → Prop) (d : Nat) (s : Shared) : Prop
  | mk (i : Nat) (c : Cfg) (m : Loc) (led : Led) (o : Obj) (e : d = N - i) (hi : i ≤ N) (hI : It o i) (C : Cx w c A n m ((I, o) :: led) s) (hj : J i c m led) : ForC w A n I N It J d s
theorem for_tupC {x : Str} {px : Pos} {I t : Addr} {o : Obj} {vs : List Value} {j : Nat} {body orelse : List Stmt} {env : Env} {R : Result → Shared → Prop} (C : Cx w c A n m ((I, o) :: led) s) (hI : IsTuI o t 0)
    (J : Nat → Cfg → Loc → Led → Prop) (hJ : ∀ i c m led, J i c m led → (t, tupO vs j) ∈ led) (h0 : J 0 c m led)
    (turn : ∀ i c m led s v E' o, vs[i]? = some v → J i c m led → IsTuI o t (i + 1) → Cx w c A n m ((I, o) :: led) s →
      ∀ T : Flow → Shared → Prop, (∀ s c' m' led', Cx w c' A n m' ((I, o) :: led') s → J (i + 1) c' m' led' → T .next s) →
      wpAny (model prog w) A (assign (.Name x px) env v) (fun _ s => wpAny (model prog w) A (execs body env) T E' s) E' s)
    (done : ∀ c m led s E', J vs.length c m led → Cx w c A n m led s → wpAny (model prog w) A (execs orelse env) (fun f s => R (.ok f) s) E' s) :
    codeAny (model prog w) A (.forLoop (.Name x px) (.ref I) body orelse env) R s := by
  refine codeAny_loop' rfl (ForC w A n I vs.length (fun o i => IsTuI o t i) J) (fun d s IH => ?_) vs.length ⟨0, c, m, led, o, rfl, Nat.zero_le _, hI, C, h0⟩
  obtain ⟨i, c, m, led, o, rfl, hi, hI, C, hj⟩ := IH
  have ht : s.heap.IsTuple t vs.toArray := ⟨_, C.get (.tail _ (hJ _ _ _ _ hj)), rfl, j, rfl⟩
  show wpAny _ _ ((forTurn (.Name x px) (.ref I) body orelse env).onRaise (fun x => do noteFrame x env; theTreesLotGoes x)) _ _ s
  refine wpAny_noted ?_
  simp only [forTurn]
  refine wpAny_bind (wpAny_standAt (wpAny_bind (wpAny_onRaise ?_)))
  by_cases hlt : i < vs.length
  · refine wpAny_pyNext_tuple_item ⟨o, C.get (.head _), hI.1, hI.2⟩ ht (x := vs[i]) (by simp [hlt]) fun h' hit hs => ?_
    obtain ⟨o', ho', q1, q2⟩ := hit
    have C' : Cx w c A n m ((I, o') :: led) { s with heap := h' } := C.set hs ho'
    refine wpAny_bind (wpAny_pure (a := ()) ?_)
    refine wpAny_bind (wpAny_mono (turn i c m led _ vs[i] _ o' (List.getElem?_eq_getElem hlt) hj ⟨q1, q2⟩ C' (fun f s => f = .next ∧ ∃ d', d' < vs.length - i ∧ ForC w A n I vs.length (fun o i => IsTuI o t i) J d' s) (fun _ a b c C j => ⟨rfl, vs.length - (i + 1), by omega, i + 1, a, b, c, o', rfl, hlt, ⟨q1, q2⟩, C, j⟩)) (fun _ s₂ h₂ => wpAny_bind (wpAny_mono h₂ (fun f s₃ h₃ => ?_) fun _ _ h' => h')) fun _ _ h' => h')
    obtain ⟨rfl, h₃⟩ := h₃
    exact wpAny_pure (.inl ⟨rfl, h₃⟩)
  · have e : i = vs.length := by lia
    subst e
    refine wpAny_pyNext_tuple_end C.hh ⟨o, C.get (.head _), hI.1, hI.2⟩ ht (by simp) fun h' he => ?_
    exact wpAny_pure (.inr ⟨rfl, codeAny_block (done c m led _ _ hj (C.forget (s' := { s with heap := h' }) he))⟩)
theorem mis_dat : ∀ {vs : List Value}, (∀ v ∈ vs, IsMis v) → DatAll led vs (vs.map fun _ => Dat.str "misused")
  | [], _ => .nil
  | v :: vs, h => by
    obtain ⟨t, rfl⟩ := h v (.head _)
    exact .cons (.str _ _) (mis_dat fun v hv => h v (.tail _ hv))
theorem eq_mis {a b : Addr} {vs us : List Value} {k j : Nat} {Q : Value → Shared → Prop} (C : Cx w c A (n + 1) m led s) (ha : (a, lstO vs k) ∈ led) (hv : ∀ v ∈ vs, IsMis v) (hb : (b, lstO us j) ∈ led) (hu : ∀ v ∈ us, IsMis v) (hl : vs.length = us.length)
    (h : Q (.bool true) s) : wpAny (model prog w) A (compareOp .Eq (.ref a) (.ref b)) Q E s := by
  have ok : ∀ vs : List Value, ∀ d ∈ vs.map fun _ => Dat.str "misused", kqdOk 8 d = true := fun vs d hd => by
    obtain ⟨r, _, rfl⟩ := List.mem_map.mp hd
    decide +kernel
  have e : vs.map (fun _ => Dat.str "misused") = us.map (fun _ => Dat.str "misused") := by rw [List.map_const', List.map_const', hl]
  refine kqd_eq C.N ha rfl rfl (mis_dat hv) (fun p hp => hp) hb rfl rfl (mis_dat hu) (fun p hp => hp) (ok _) (ok _) (by have := C.hu; lia) ?_
  have e2 : ∀ i : Decidable (vs.map (fun _ => Dat.str "misused") = us.map (fun _ => Dat.str "misused")), @decide _ i = true := fun i => @decide_eq_true _ i e
  rw [e2]; exact h
end
end Mine
end

section
open PySem PySem.W PySem.Calls PyProof.Rows PyProof.Rows.LCg
namespace Mine
section
variable {prog : Program} {w : World} {c : Cfg} {A : Around} {n : Nat} {m : Loc} {led : Led} {s : Shared} {E : Value → Shared → Prop}
variable {wD : Addr} {oD : Obj} {kvsD : List (Str × Value)} {fA : Addr} {fO : Obj} {vD : Addr} {vO : Obj} {vkvs : List (Int × Value)} {b mn g cur cur2 : Int} {fs : List Int} {ss : List (Int × List Int)}
variable {x dS r wd lf : Addr} {oS oW : Obj} {kvs : List (Int × Value)} {ls : List Addr} {free : Rows} {ws : List (Int × Rows)}
theorem lw_told {Q : Value → Shared → Prop} {way y z : Int} {t1 t2 t3 : Tok} (C : Cx w c A (n + 9) m led s) (hb0 : c.base = c.h₀) (hou : c.outer = []) (P : SlP prog w led x b mn cur dS oS r wd oW lf kvs ls free ws) (W : WlP prog w led wD oD kvsD fA fO vD vO vkvs b mn g cur2 fs ss)
    (hb : 3 ≤ b) (hmn : 0 < mn) (hm40 : mn ≤ 40) (hbm : b + mn ≤ 900) (hw0 : 0 ≤ way) (hw6 : way ≤ 6) {N : Nat} (hN : N ≤ 60) (I : InvP b mn g (Mem free) (ws.map (·.1)) (MemW ws) N)
    (K : ∀ v cur' free' ws' led' s, StepP b mn g cur (Mem free) (ws.map (·.1)) (MemW ws) way y z v cur' (Mem free') (ws'.map (·.1)) (MemW ws') → SlOut prog w led led' x b mn cur' (dS :: wd :: lf :: ls) free' ws' → Cx w c A (n + 9) m led' s → Q v s) :
    wpAny (model prog w) A (call (.ref 338) [.ref x, .ref wD, .int way t1, .int y t2, .int z t3]) Q E s := by
  obtain ⟨tb, vb⟩ := W.vb
  obtain ⟨tm, vm⟩ := W.vm
  obtain ⟨tg, vg⟩ := W.vg
  have hy0 : 0 ≤ y.fmod (mn + 4) := Int.fmod_nonneg_of_pos _ (by lia)
  have hy1 : y.fmod (mn + 4) < mn + 4 := Int.fmod_lt_of_pos _ (by lia)
  have hz0 : 0 ≤ z.fmod 7 := Int.fmod_nonneg_of_pos _ (by decide)
  have hz1 : z.fmod 7 < 7 := Int.fmod_lt_of_pos _ (by decide)
  have hsec : 1 ≤ secI b mn y ∧ secI b mn y ≤ b + mn + 1 := by unfold secI; omega
  have hcnt : 1 ≤ cntI z ∧ cntI z ≤ 7 := by unfold cntI; lia
  have hwl : ws.length ≤ 60 := by have := I.len; rw [List.length_map] at this; lia
  obtain ⟨fi, fk, RF⟩ := id P.fr
  have hSelf : SlOut prog w led led x b mn cur (dS :: wd :: lf :: ls) free ws := ⟨Kp.rfl' _ _, _, ⟨_, _, _, _, _, _, _, _, P, rfl⟩, fun a ha => .inl ha⟩
  refine enterT (binds := [(Str.ofString "slab", .ref x), (Str.ofString "world", .ref wD), (Str.ofString "way", .int way t1), (Str.ofString "y", .int y t2), (Str.ofString "z", .int z t3)]) C hb0 hou (by k_is) (by k_is) (BindsTo.of_eq rfl) (locs rfl) (fun c A s tc hA henv C Qr kQ => ?_) rfl rfl rfl (by decide)
  walk_at "xc"
  refine Assign_Tuple_swapped (names := [Str.ofString "sector", Str.ofString "count", Str.ofString "txg"]) ?_
  refine opv fun _ _ => ?_
  refine Tuple_ ?_
  refine spliced_more ?_
  refine opv fun _ _ => ?_
  refine wpAny_BinOp ?_
  refine wpAny_BinOp ?_
  refine Subscript_ ?_
  refine nm_l C (by walk_at "lk") ?_ rfl rfl (by decide)
  with_reducible refine k_str C fun t s C => ?_
  refine d_itemS C W.hD W.dc vb (fun s C => ?_) (by with_unfolding_all rfl)
  with_reducible refine k_int C fun t s C => ?_
  with_reducible refine a_sub C fun t s C => ?_
  refine opv fun _ _ => ?_
  refine wpAny_BinOp ?_
  refine nm_l C (by walk_at "lk") ?_ rfl rfl (by decide)
  refine wpAny_BinOp ?_
  refine Subscript_ ?_
  refine nm_l C (by walk_at "lk") ?_ rfl rfl (by decide)
  with_reducible refine k_str C fun t s C => ?_
  refine d_itemS C W.hD W.dc vm (fun s C => ?_) (by with_unfolding_all rfl)
  with_reducible refine k_int C fun t s C => ?_
  with_reducible refine a_add C fun t s C => ?_
  refine a_mod C (by lia) fun t s C => ?_
  walk_at "op"
  with_reducible refine a_add C fun t s C => ?_
  walk_at "op"
  refine spliced_more ?_
  refine wpAny_BinOp ?_
  with_reducible refine k_int C fun t s C => ?_
  refine wpAny_BinOp ?_
  refine nm_l C (by walk_at "lk") ?_ rfl rfl (by decide)
  with_reducible refine k_int C fun t s C => ?_
  with_reducible refine a_mod C (by decide) fun t s C => ?_
  with_reducible refine a_add C fun t s C => ?_
  refine spliced_more ?_
  refine Subscript_ ?_
  refine nm_l C (by walk_at "lk") ?_ rfl rfl (by decide)
  with_reducible refine k_str C fun t s C => ?_
  refine d_itemS C W.hD W.dc vg (fun s C => ?_) (by with_unfolding_all rfl)
  refine spliced_none ?_
  refine mk_tup C (Nat.le_of_ble_eq_true rfl) fun D s C => ?_
  walk_at "op"
  refine unpack_tup C (.head _) rfl fun s C => ?_
  replace C := C.drop
  refine assignInOrder_cons ?_
  refine bd_l C (fun s C => ?_) rfl rfl
  refine assignInOrder_cons ?_
  refine bd_l C (fun s C => ?_) rfl rfl
  refine assignInOrder_cons ?_
  refine bd_l C (fun s C => ?_) rfl rfl
  refine assignInOrder_nil ?_
  rw [show b - 2 + y.fmod (mn + 4) = secI b mn y from rfl, show 1 + z.fmod 7 = cntI z from rfl] at C
  walk_at "xc"
  refine try_T C (fun _ => ∀ v, IsMis v → StepP b mn g cur (Mem free) (ws.map (·.1)) (MemW ws) way y z v cur (Mem free) (ws.map (·.1)) (MemW ws)) tc hA henv (fun Qb Eb kB kE => ?_) ?_ rfl rfl
  · walk_at "xc"
    refine wpAny_If ?_
    refine wpAny_isTrue_Compare1 ?_
    refine nm_l C (by walk_at "lk") ?_ rfl rfl (by decide)
    with_reducible refine k_int C fun t s C => ?_
    refine lt_int ?_
    refine wpAny_truthy_bool ?_
    refine ite_dec (fun hw => ?_) (fun hw => ?_)
    · walk_at "xc"
      refine wpAny_Return_some ?_
      refine MethodCall_ ?_
      refine nm_l C (by walk_at "lk") ?_ rfl rfl (by decide)
      refine ms_take C P.hx P.hS P.so ?_
      refine cw_more C (by k_is) ?_
      refine spliced_more ?_
      refine nm_l C (by walk_at "lk") ?_ rfl rfl (by decide)
      refine spliced_none ?_
      refine ⟨C.Xs, ?_⟩
      refine sl_take C P (by lia) (fun s hp C => ?_) (fun p tp free' led' s hp SO hf C => ?_)
      walk_at "ar"
      · refine kB _ _ ?_
        try walk_at "rt"
        refine kQ _ _ _ _ _ tc C (fun C => K .none cur free ws led _ (.a hw rfl (fun _ _ => Iff.rfl) free RF.hg (fun _ => Iff.rfl) hp (.inl ⟨rfl, rfl, fun _ => Iff.rfl⟩)) hSelf C)
      · refine kB _ _ ?_
        try walk_at "rt"
        refine kQ _ _ _ _ _ tc C (fun C => K _ _ free' ws led' _ (.a hw rfl (fun _ _ => Iff.rfl) free RF.hg (fun _ => Iff.rfl) hp (.inr ⟨p, tp, rfl, rfl, hf⟩)) SO C)
    walk_at "xn"
    walk_at "xc"
    refine wpAny_If ?_
    refine t_or C (p := way == 2) (q := way == 3) (fun s R C k => ?_) (fun s R C k => ?_) fun s C => ?_
    · refine wpAny_isTrue_Compare1 ?_
      refine nm_l C (by walk_at "lk") ?_ rfl rfl (by decide)
      with_reducible refine k_int C fun t s C => ?_
      refine eq_int ?_
      refine wpAny_truthy_bool ?_
      exact k _ C
    · refine wpAny_isTrue_Compare1 ?_
      refine nm_l C (by walk_at "lk") ?_ rfl rfl (by decide)
      with_reducible refine k_int C fun t s C => ?_
      refine eq_int ?_
      refine wpAny_truthy_bool ?_
      exact k _ C
    by_cases h23 : way = 2 ∨ way = 3
    · refine ite_t (by rcases h23 with h | h <;> rw [h] <;> rfl) ?_
      by_cases hgv : GivenI b mn free ws (secI b mn y) (cntI z)
      · walk_at "xc"
        refine wpAny_Return_some ?_
        refine opv fun _ _ => ?_
        refine MethodCall_ ?_
        refine nm_l C (by walk_at "lk") ?_ rfl rfl (by decide)
        refine ms_give C P.hx P.hS P.so ?_
        refine cw_more C (by k_is) ?_
        refine spliced_more ?_
        refine nm_l C (by walk_at "lk") ?_ rfl rfl (by decide)
        refine spliced_more ?_
        refine nm_l C (by walk_at "lk") ?_ rfl rfl (by decide)
        refine spliced_more ?_
        refine nm_l C (by walk_at "lk") ?_ rfl rfl (by decide)
        refine spliced_none ?_
        refine ⟨C.Xs, ?_⟩
        refine sl_give C P (by lia) (by omega) (by lia) (by lia) hgv fun ws' led' s SO hk hm C => ?_
        walk_at "op"
        walk_at "ar"
        refine kB _ _ ?_
        try walk_at "rt"
        refine kQ _ _ _ _ _ tc C (fun C => K _ cur free ws' led' _ (.b h23 rfl (fun _ => Iff.rfl) (.inr ⟨(given_iff (by omega)).mpr hgv, rfl, hk, hm⟩)) SO C)
      · walk_at "xc"
        refine wpAny_Return_some ?_
        refine opv fun _ _ => ?_
        refine MethodCall_ ?_
        refine nm_l C (by walk_at "lk") ?_ rfl rfl (by decide)
        refine ms_give C P.hx P.hS P.so ?_
        refine cw_more C (by k_is) ?_
        refine spliced_more ?_
        refine nm_l C (by walk_at "lk") ?_ rfl rfl (by decide)
        refine spliced_more ?_
        refine nm_l C (by walk_at "lk") ?_ rfl rfl (by decide)
        refine spliced_more ?_
        refine nm_l C (by walk_at "lk") ?_ rfl rfl (by decide)
        refine spliced_none ?_
        refine ⟨C.Xs, ?_⟩
        refine sl_give_x C P (by omega) (by omega) (by omega) hgv fun e s X => kE _ _ _ _ C X fun v hv => .b h23 rfl (fun _ => Iff.rfl) (.inl ⟨fun q => hgv ((given_iff (by omega)).mp q), hv, rfl, fun _ _ => Iff.rfl⟩)
        walk_at "op"
        walk_at "ar"
    refine ite_f (by rw [not_or] at h23; simp [h23.1, h23.2]) ?_
    walk_at "xn"
    walk_at "xc"
    refine wpAny_If ?_
    refine wpAny_isTrue_Compare1 ?_
    refine nm_l C (by walk_at "lk") ?_ rfl rfl (by decide)
    with_reducible refine k_int C fun t s C => ?_
    refine eq_int ?_
    refine wpAny_truthy_bool ?_
    refine ite_dec (fun hw4 => ?_) (fun hw4 => ?_)
    · walk_at "xc"
      refine wpAny_Return_some ?_
      refine MethodCall_ ?_
      refine nm_l C (by walk_at "lk") ?_ rfl rfl (by decide)
      refine ms_claim C P.hx P.hS P.so ?_
      refine cw_more C (by k_is) ?_
      refine spliced_more ?_
      refine nm_l C (by walk_at "lk") ?_ rfl rfl (by decide)
      refine spliced_more ?_
      refine nm_l C (by walk_at "lk") ?_ rfl rfl (by decide)
      refine spliced_none ?_
      refine ⟨C.Xs, ?_⟩
      refine sl_claim C P (by omega) (by omega) (fun hc free' led' s SO hm C => ?_) (fun hc e s X => kE _ _ _ _ C X fun v hv => .c hw4 rfl rfl (fun _ _ => Iff.rfl) (.inl ⟨hc, hv, fun _ => Iff.rfl⟩))
      walk_at "ar"
      refine kB _ _ ?_
      try walk_at "rt"
      refine kQ _ _ _ _ _ tc C (fun C => K _ cur free' ws led' _ (.c hw4 rfl rfl (fun _ _ => Iff.rfl) (.inr ⟨hc, rfl, hm⟩)) SO C)
    walk_at "xn"
    walk_at "xc"
    refine wpAny_If ?_
    refine wpAny_isTrue_Compare1 ?_
    refine nm_l C (by walk_at "lk") ?_ rfl rfl (by decide)
    with_reducible refine k_int C fun t s C => ?_
    refine eq_int ?_
    refine wpAny_truthy_bool ?_
    refine ite_dec (fun hw5 => ?_) (fun hw5 => ?_)
    · walk_at "xc"
      refine wpAny_Return_some ?_
      refine opv fun _ _ => ?_
      refine MethodCall_ ?_
      refine nm_l C (by walk_at "lk") ?_ rfl rfl (by decide)
      refine ms_settle C P.hx P.hS P.so ?_
      refine cw_more C (by k_is) ?_
      refine spliced_more ?_
      refine opv fun _ _ => ?_
      refine wpAny_BinOp ?_
      refine wpAny_BinOp ?_
      refine nm_l C (by walk_at "lk") ?_ rfl rfl (by decide)
      with_reducible refine k_int C fun t s C => ?_
      with_reducible refine a_add C fun t s C => ?_
      refine wpAny_BinOp ?_
      refine nm_l C (by walk_at "lk") ?_ rfl rfl (by decide)
      with_reducible refine k_int C fun t s C => ?_
      with_reducible refine a_mod C (by decide) fun t s C => ?_
      with_reducible refine a_add C fun t s C => ?_
      walk_at "op"
      refine spliced_more ?_
      refine wpAny_BinOp ?_
      refine nm_l C (by walk_at "lk") ?_ rfl rfl (by decide)
      with_reducible refine k_int C fun t s C => ?_
      with_reducible refine a_mod C (by decide) fun t s C => ?_
      refine spliced_none ?_
      refine ⟨C.Xs, ?_⟩
      refine sl_settle C P (by lia) (I.asc.imp fun h => Int.le_of_lt h) fun free' ws' led' s SO hk hW hF C => ?_
      walk_at "op"
      walk_at "ar"
      refine kB _ _ ?_
      try walk_at "rt"
      refine kQ _ _ _ _ _ tc C (fun C => K _ cur free' ws' led' _ (.d hw5 rfl rfl hk hW hF) SO C)
    walk_at "xn"
    walk_at "xc"
    refine wpAny_Return_some ?_
    refine opv fun _ _ => ?_
    refine MethodCall_ ?_
    refine nm_l C (by walk_at "lk") ?_ rfl rfl (by decide)
    refine ms_load C P.hx P.hS P.so ?_
    refine cw_more C (by k_is) ?_
    refine spliced_more ?_
    refine opv fun _ _ => ?_
    refine Call_ ?_
    refine nm_g C (by k_is) ?_ rfl rfl (by decide)
    refine cw_more C (by k_is) ?_
    refine spliced_more ?_
    refine opv fun _ _ => ?_
    refine List_ ?_
    refine spliced_more ?_
    refine opv fun _ _ => ?_
    refine Tuple_ ?_
    refine spliced_more ?_
    refine Call_ ?_
    refine nm_b C (by k_is) (by boot_fast) ?_ (by decide) rfl rfl (by decide)
    refine PyProof.Rows.callWith_builtin1 ?_
    refine spliced_more ?_
    with_reducible refine k_int C fun t s C => ?_
    refine spliced_more ?_
    refine nm_l C (by walk_at "lk") ?_ rfl rfl (by decide)
    refine spliced_none ?_
    refine b_max C fun t s C => ?_
    refine spliced_more ?_
    refine wpAny_BinOp ?_
    refine nm_l C (by walk_at "lk") ?_ rfl rfl (by decide)
    refine nm_l C (by walk_at "lk") ?_ rfl rfl (by decide)
    with_reducible refine a_add C fun t s C => ?_
    refine spliced_none ?_
    refine mk_tup C (Nat.le_of_ble_eq_true rfl) fun T s C => ?_
    walk_at "op"
    refine spliced_none ?_
    refine mk_list C (Nat.le_of_ble_eq_true rfl) fun D s C => ?_
    walk_at "op"
    refine spliced_none ?_
    refine ⟨C.Xs, ?_⟩
    refine new_rg1 C (.head _) (.tail _ (.head _)) (by lia) (by lia) (by lia) fun rA lA rowsA ledA s kA fA RA hmA C => ?_
    walk_at "op"
    refine spliced_none ?_
    refine ⟨C.Xs, ?_⟩
    have hs : ∀ p ∈ led, p ∈ ledA := fun p hp => kA _ (.tail _ (.tail _ hp))
    refine sl_load C (P.mono hs) RA (by lia) hmn (by omega) fun free' led' s SO hF C => ?_
    walk_at "op"
    walk_at "ar"
    refine kB _ _ ?_
    try walk_at "rt"
    refine kQ _ _ _ _ _ tc C (fun C => K _ b free' [] led' _ (.e (by rw [not_or] at h23; lia) rfl rfl rfl (fun k x q => ?_) (fun x => ?_)) (SO.pre hs) C)
    · obtain ⟨_, q1, _⟩ := q
      cases q1
    · rw [hF x, hmA x, show max 0 (secI b mn y) = secI b mn y by lia]
  · intro m₁ c' e s tc' hL henv' C hR
    walk_at "xc"
    refine wpAny_Return_some ?_
    refine Constant_str ?_
    try walk_at "rt"
    exact kQ _ _ c' _ _ tc' C.same (fun C => K _ cur free ws led _ (hR _ ⟨_, rfl⟩) hSelf C)
end
end Mine
end

section
open PySem PySem.W PySem.Calls PyProof.Rows PyProof.Rows.LCg
namespace Mine
section
variable {prog : Program} {w : World} {c : Cfg} {A : Around} {n : Nat} {m : Loc} {led : Led} {s : Shared} {E : Value → Shared → Prop}
variable {b mn cur : Int} {x dS r wd lf : Addr} {oS oW : Obj} {kvs : List (Int × Value)} {ls : List Addr} {free : Rows} {ws : List (Int × Rows)}
inductive J24 (w : World) (c c0 : Cfg) (m0 : Loc) (A0 : Around) (led : Led) (D x T : Addr) (vsT : List Value) (i : Nat) (c' : Cfg) (m' : Loc) (led' : Led) : Prop
  | mk (hL : c'.L = c.L) (hE : c'.env = c.env) (tc : TC w c0 m0 A0 c') (m1 : m' (Str.ofString "told") = some (.ref D)) (m2 : m' (Str.ofString "slab") = some (.ref x)) (hs : ∀ p ∈ led, p ∈ led') (hT : (T, tupO vsT 0) ∈ led') (vs : List Value) (k : Nat) (hD : (D, lstO vs k) ∈ led') (hmis : ∀ v ∈ vs, IsMis v) (hlen : vs.length = i) : J24 w c c0 m0 A0 led D x T vsT i c' m' led'
theorem lw_none {Q : Value → Shared → Prop} (C : Cx w c A (n + 6) m led s) (hb0 : c.base = c.h₀) (hou : c.outer = []) (P : SlP prog w led x b mn cur dS oS r wd oW lf kvs ls free ws)
    (K : ∀ led' s, (∀ p ∈ led, p ∈ led') → Cx w c A (n + 6) m led' s → Q (.bool true) s) : wpAny (model prog w) A (call (.ref 350) [.ref x]) Q E s := by
  refine enterT (binds := [(Str.ofString "slab", .ref x)]) C hb0 hou (by k_is) (by k_is) (BindsTo.of_eq rfl) (locs rfl) (fun c A s tc hA henv C Qr kQ => ?_) rfl rfl rfl (by decide)
  walk_at "xc"
  refine wpAny_Assign_Name ?_
  refine List_ ?_
  refine spliced_none ?_
  refine mk_list C (Nat.le_of_ble_eq_true rfl) fun D s C => ?_
  refine st_l C (fun s C => ?_) rfl rfl
  have hDf := C.ne
  walk_at "xc"
  refine wpAny_For ?_
  refine Tuple_ ?_
  refine spliced_more ?_
  with_reducible refine k_int C fun t s C => ?_
  refine spliced_more ?_
  refine UnaryOp_ ?_
  with_reducible refine k_int C fun t s C => ?_
  refine a_neg C fun t s C => ?_
  refine spliced_none ?_
  refine mk_tup C (Nat.le_of_ble_eq_true rfl) fun T s C => ?_
  obtain ⟨vsT, hvT, C⟩ : ∃ vsT, IntsAre vsT [0, -1] ∧ Cx w c A _ _ ((T, tupO vsT 0) :: (D, lstO [] 0) :: led) s := ⟨_, .cons _ _ (.cons _ _ .nil), C⟩
  refine iter_tup2 C (.head _) fun I o s hI C => ?_
  refine for_tupC C hI (J24 w c _ _ _ led D x T vsT) (fun i c' m' led' h => by obtain ⟨_, _, _, _, _, _, h⟩ := h; exact h) ⟨rfl, rfl, tc, by walk_at "lk", by walk_at "lk", fun p hp => .tail _ (.tail _ hp), .head _, [], 0, .tail _ (.head _), fun v hv => absurd hv List.not_mem_nil, rfl⟩ ?_ ?_
  · rintro i c1 m' led' s v E' o hvi ⟨hL, hE1, tc1, m1, m2, hs, hT, vs, k, hD, hmis, hlen⟩ hIo C T1 kN
    obtain ⟨hi, t, rfl⟩ := ints_get hvT hvi
    have hi2 : i < 2 := hi
    have hle : ([0, -1] : List Int)[i] < 1 := by
      have : i = 0 ∨ i = 1 := by lia
      rcases this with rfl | rfl <;> simp
    generalize ([0, -1] : List Int)[i] = y at hle
    rw [← hL]
    have hIne := C.ne
    have hTD : T ≠ D := C.diff (.tail _ hT) (.tail _ hD) (by simp [PySem.W.listOf])
    have P1 := (P.mono hs).mono (led' := (I, o) :: led') fun p hp => .tail _ hp
    refine wpAny_assign_Name (st_l C (fun s C => ?_) rfl rfl)
    walk_at "xc"
    refine try_T C (fun m₁ => m₁ (Str.ofString "told") = some (.ref D) ∧ m₁ (Str.ofString "slab") = some (.ref x)) tc1 (by rw [hL]; exact hA) (by rw [hE1, hL]; exact henv) (fun Qb Eb kB kE => ?_) ?_ rfl rfl
    · walk_at "xc"
      refine wpAny_Expr_any ?_
      refine MethodCall_ ?_
      refine nm_l C (by walk_at "lk") ?_ rfl rfl (by decide)
      refine mt_append C (.tail _ hD) ?_
      refine callWith_method1 ?_
      refine spliced_more ?_
      refine MethodCall_ ?_
      refine nm_l C (by walk_at "lk") ?_ rfl rfl (by decide)
      refine ms_take C P1.hx P1.hS P1.so ?_
      refine cw_more C (by k_is) ?_
      refine spliced_more ?_
      refine nm_l C (by walk_at "lk") ?_ rfl rfl (by decide)
      refine spliced_none ?_
      refine ⟨C.Xs, ?_⟩
      refine sl_take_x C P1 hle fun e s X => kE _ _ _ _ C X ⟨by walk_at "lk", by walk_at "lk"⟩
    · rintro m₁ c2 e s tc2 hL2 hE2 C ⟨q1, q2⟩
      walk_at "xc"
      refine wpAny_Expr_any ?_
      refine MethodCall_ ?_
      refine nm_lA C hL2 q1 ?_ rfl rfl (by decide)
      refine mt_appendA C (.tail _ hD) ?_
      refine callWith_method1 ?_
      refine spliced_more ?_
      refine Constant_str ?_
      refine spliced_none ?_
      replace C := C.same (s' := { s with toks := s.toks + 1 })
      obtain ⟨led2, C2, kp2, s2⟩ := C.front (.tail _ hD)
      refine b_appendA C2 (by lia) fun s C => ?_
      walk_at "xn"
      have hID : I ≠ D := fun q => hIne _ hD q.symm
      obtain ⟨led3, C3, kp3, s3⟩ := C.front (.tail _ (kp2 _ (.head _) (by rw [List.mem_singleton]; exact hID)))
      have keep : ∀ p ∈ led', p.1 ≠ D → p ∈ led3 := fun p hp hn => kp3 _ (.tail _ (kp2 _ (.tail _ hp) (by rw [List.mem_singleton]; exact hn))) (by rw [List.mem_singleton]; exact hIne p hp)
      walk_at "xn"
      refine kN _ c2 m₁ led3 C3 ⟨hL2.trans hL, hE2.trans hE1, tc2, q1, q2, fun p hp => keep p (hs p hp) (hDf p hp), keep _ hT hTD, _, _, kp3 _ (.head _) (by rw [List.mem_singleton]; exact hID.symm), fun v hv => ?_, by rw [List.length_append, hlen]; rfl⟩
      rcases List.mem_append.mp hv with hv | hv
      · exact hmis v hv
      · rw [List.mem_singleton.mp hv]; exact ⟨_, rfl⟩
  · rintro c1 m' led' s E' ⟨hL, hE1, tc1, m1, m2, hs, hT, vs, k, hD, hmis, hlen⟩ C
    walk_at "xn"
    refine opn (by assumption) ?_
    rw [← hL]
    walk_at "xc"
    refine wpAny_Return_some ?_
    refine wpAny_Compare1 ?_
    refine nm_l C (by walk_at "lk") ?_ rfl rfl (by decide)
    refine List_ ?_
    refine spliced_more ?_
    with_reducible refine k_str C fun t s C => ?_
    refine spliced_more ?_
    with_reducible refine k_str C fun t s C => ?_
    refine spliced_none ?_
    refine mk_list C (Nat.le_of_ble_eq_true rfl) fun D2 s C => ?_
    refine eq_mis C (.tail _ hD) hmis (.head _) (fun v hv => by rcases List.mem_cons.mp hv with rfl | hv; exact ⟨_, rfl⟩; rw [List.mem_singleton.mp hv]; exact ⟨_, rfl⟩) (by rw [hlen]; exact (IntsAre.length hvT)) ?_
    walk_at "ar"
    try walk_at "rt"
    exact kQ _ _ c1 _ _ tc1 C (fun C => K _ _ (fun p hp => .tail _ (hs p hp)) C)
end
end Mine
end

section
open PySem PySem.W PySem.Calls PyProof.Rows PyProof.Rows.LCg
namespace Mine
theorem upto_iff {b m x : Int} : x ∈ upto b m ↔ b ≤ x ∧ x < b + m := by
  refine ⟨fun h => ?_, upto_mem⟩
  obtain ⟨i, hi, rfl⟩ := List.mem_map.mp h
  have := List.mem_range.mp hi
  lia
theorem upto_nodup (b m : Int) : (upto b m).Nodup := List.pairwise_map.mpr (List.nodup_range.imp fun h e => h (by lia))
noncomputable def spread (rows : Rows) : List Int := rows.flatMap fun r => upto r.1 (r.2 - r.1)
theorem spread_mem {rows : Rows} {x : Int} : x ∈ spread rows ↔ Mem rows x := by
  unfold spread Mem
  rw [List.mem_flatMap]
  refine exists_congr fun r => and_congr Iff.rfl ?_
  rw [upto_iff]; lia
theorem spread_nodup : ∀ {rows : Rows}, Rg rows → (spread rows).Nodup
  | [], _ => .nil
  | r :: rows, h => by
    show (upto r.1 (r.2 - r.1) ++ spread rows).Nodup
    refine List.nodup_append.mpr ⟨upto_nodup _ _, spread_nodup h.tail, fun a ha c hc e => ?_⟩
    have h1 := upto_iff.mp ha
    have h2 := rg_tail_gt h (spread_mem.mp hc)
    lia
theorem spread_len : ∀ {rows : Rows}, Rg rows → ((spread rows).length : Int) = (lens rows).sum
  | [], _ => rfl
  | r :: rows, h => by
    show ((upto r.1 (r.2 - r.1) ++ spread rows).length : Int) = (r.2 - r.1) + (lens rows).sum
    have h1 := h.ne r (.head _)
    rw [List.length_append, upto_len, ← spread_len h.tail]
    lia
theorem sum_lens {rows : Rows} {ns : List Int} (h : Rg rows) (hn : ns.Nodup) (hm : ∀ x, Mem rows x ↔ x ∈ ns) : (lens rows).sum = ns.length := by
  rw [← spread_len h, ((List.perm_ext_iff_of_nodup (spread_nodup h) hn).mpr fun x => spread_mem.trans (hm x)).length_eq]
theorem sum_waits {ws : List (Int × Rows)} {ss : List (Int × List Int)} (hk : ws.map (·.1) = ss.map (·.1)) (hwn : (ws.map (·.1)).Nodup) (hw : ∀ p ∈ ws, Rg p.2) (hs : ∀ p ∈ ss, p.2.Nodup) (hm : ∀ k x, MemW ws k x ↔ MemS ss k x) :
    (ws.map fun p => (lens p.2).sum) = ss.map fun p => (p.2.length : Int) := by
  have hl : ws.length = ss.length := by have := congrArg List.length hk; simpa using this
  refine List.ext_getElem (by simp [hl]) fun i h1 h2 => ?_
  rw [List.length_map] at h1 h2
  rw [List.getElem_map, List.getElem_map]
  have ek : (ws[i]).1 = (ss[i]).1 := by
    have : (ws.map (·.1))[i]'(by rw [List.length_map]; exact h1) = (ss.map (·.1))[i]'(by rw [List.length_map]; exact h2) := by congr 1
    simpa using this
  exact sum_lens (hw _ (List.getElem_mem h1)) (hs _ (List.getElem_mem h2)) fun x => by
    rw [← memW_at hwn h1, hm, ek, memS_at (hk ▸ hwn) h2]
theorem SetsV.nds {w : World} {led : Led} : ∀ {kvs : List (Int × Value)} {ss : List (Int × List Int)}, SetsV w led kvs ss → ∀ p ∈ ss, p.2.Nodup
  | [], [], _, _, h => absurd h List.not_mem_nil
  | _ :: _, q :: _, h, p, hp => by
    rcases List.mem_cons.mp hp with rfl | hp
    · obtain ⟨a, o, _, _, S⟩ := h.2.1
      exact S.nd
    · exact h.2.2.nds p hp
theorem len_upto {ns : List Int} {a k : Int} (hn : ns.Nodup) (hk : 0 ≤ k) (hm : ∀ x, x ∈ ns ↔ a ≤ x ∧ x < a + k) : (ns.length : Int) = k := by
  rw [((List.perm_ext_iff_of_nodup hn (upto_nodup a k)).mpr fun x => (hm x).trans upto_iff.symm).length_eq, upto_len]
  lia
theorem given_same {free : Rows} {ws : List (Int × Rows)} {fs : List Int} {ss : List (Int × List Int)} {b mn sec k : Int} {v1 v2 : Bool} {sm : List Int} (hF : ∀ x, Mem free x ↔ x ∈ fs) (hW : ∀ k x, MemW ws k x ↔ MemS ss k x) (hb : b ≤ sec) (he : sec + k ≤ b + mn)
    (hs : ∀ x, x ∈ sm ↔ sec ≤ x ∧ x < sec + k) (h1 : v1 = true ↔ ¬ Meets free sec k ∧ ∀ p ∈ ws, ¬ Meets p.2 sec k) {gs : List Int} (hg : ∀ x, x ∈ gs ↔ (b ≤ x ∧ x < b + mn) ∧ x ∉ fs ∧ ∀ p ∈ ss, x ∉ p.2) (h2 : v2 = true ↔ ∀ x ∈ sm, x ∈ gs) : (v1 == v2) = true := by
  rw [beq_iff_eq, Bool.eq_iff_iff, h1, h2]
  constructor
  · rintro ⟨q1, q2⟩ x hx
    obtain ⟨a1, a2⟩ := (hs x).mp hx
    refine (hg x).mpr ⟨by lia, fun z => q1 ⟨x, a1, a2, (hF x).mpr z⟩, fun p hp z => ?_⟩
    obtain ⟨rr, z1, z2⟩ := (hW p.1 x).mpr ⟨p.2, hp, z⟩
    exact q2 _ z1 ⟨x, a1, a2, z2⟩
  · intro q
    refine ⟨fun ⟨x, a1, a2, a3⟩ => ((hg x).mp (q x ((hs x).mpr ⟨a1, a2⟩))).2.1 ((hF x).mp a3), fun p hp ⟨x, a1, a2, a3⟩ => ?_⟩
    obtain ⟨ns, z1, z2⟩ := (hW p.1 x).mp ⟨p.2, hp, a3⟩
    exact ((hg x).mp (q x ((hs x).mpr ⟨a1, a2⟩))).2.2 _ z1 z2
section
variable {prog : Program} {w : World} {c : Cfg} {A : Around} {n : Nat} {m : Loc} {led : Led} {s : Shared} {E : Value → Shared → Prop}
theorem ifexp_int {test a b : PySem.Expr} {pos : Pos} {env : Env} {i : Int} {Q : Value → Shared → Prop} (_C : Cx w c A n m led s)
    (h : ∀ Qj : Value → Shared → Prop, (∀ t s, Cx w c A n m led s → Qj (.int i t) s) → wpAny (model prog w) A (isTrue test env (eval test env)) (fun c s₂ => if c then wpAny (model prog w) A (eval a env) Qj E s₂ else wpAny (model prog w) A (eval b env) Qj E s₂) E s)
    (k : ∀ t s, Cx w c A n m led s → Q (.int i t) s) : wpAny (model prog w) A (eval (.IfExp test a b pos) env) Q E s := IfExp_ (h Q k)
end
end Mine
end

section
open PySem PySem.W PySem.Calls PyProof.Rows PyProof.Rows.LCg
namespace Mine
structure SameP (b mn g : Int) (fs : List Int) (ss : List (Int × List Int)) (free : Rows) (ws : List (Int × Rows)) : Prop where
  F : ∀ x, Mem free x ↔ x ∈ fs
  ks : ws.map (·.1) = ss.map (·.1)
  W : ∀ k x, MemW ws k x ↔ MemS ss k x
section
variable {prog : Program} {w : World} {c : Cfg} {A : Around} {n : Nat} {m : Loc} {led : Led} {s : Shared} {E : Value → Shared → Prop}
variable {wD : Addr} {oD : Obj} {kvsD : List (Str × Value)} {fA : Addr} {fO : Obj} {vD : Addr} {vO : Obj} {vkvs : List (Int × Value)} {b mn g cur : Int} {fs : List Int} {ss : List (Int × List Int)}
variable {x dS r wd lf : Addr} {oS oW : Obj} {kvs : List (Int × Value)} {ls : List Addr} {free : Rows} {ws : List (Int × Rows)}
theorem clip_iff {sec cnt b e kk x : Int} (h1 : kk ≤ cnt) (h2 : kk ≤ e - sec) (h3 : kk = cnt ∨ kk = e - sec) (hs : b ≤ sec) : ((sec ≤ x ∧ x < sec + cnt) ∧ b ≤ x ∧ x < e) ↔ (sec ≤ x ∧ x < sec + kk) :=
  ⟨fun h => ⟨h.1.1, by have := h.1.2; have := h.2.2; rcases h3 with h | h <;> subst h <;> omega⟩, fun h => by have a := h.1; have c := h.2; clear h h3; exact ⟨⟨a, by omega⟩, by omega, by omega⟩⟩
theorem clip_eq {sec cnt b e kk : Int} (h1 : kk ≤ cnt) (h2 : kk ≤ e - sec) (h3 : kk = cnt ∨ kk = e - sec) (hs : b ≤ sec) (hc : 0 ≤ cnt) : (b ≤ sec ∧ 0 ≤ cnt ∧ sec + cnt ≤ e) ↔ kk = cnt :=
  ⟨fun h => by have := h.2.2; rcases h3 with h | h <;> omega, fun h => ⟨hs, hc, by omega⟩⟩
theorem lw_same {Q : Value → Shared → Prop} {y z : Int} {t2 t3 : Tok} (C : Cx w c A (n + 9) m led s) (P : SlP prog w led x b mn cur dS oS r wd oW lf kvs ls free ws) (W : WlP prog w led wD oD kvsD fA fO vD vO vkvs b mn g cur fs ss)
    (hb : 3 ≤ b) (hmn : 0 < mn) (hm40 : mn ≤ 40) (hbm : b + mn ≤ 900) {N : Nat} (hN : N ≤ 60) (I : InvP b mn g (· ∈ fs) (ss.map (·.1)) (MemS ss) N) (S : SameP b mn g fs ss free ws)
    (K : ∀ s, Cx w c A (n + 9) m led s → Q (.bool true) s) : wpAny (model prog w) A (call (.ref 343) [.ref x, .ref wD, .int y t2, .int z t3]) Q E s := by
  have nd := C.nd
  obtain ⟨fi, fk, RF⟩ := id P.fr
  have hfl := bd_len W.sf.nd I.F
  have hsl : ss.length ≤ 60 := by have := I.len; rw [List.length_map] at this; lia
  have hwl : ws.length ≤ 60 := by have := congrArg List.length S.ks; rw [List.length_map, List.length_map] at this; lia
  have hwn : (ws.map (·.1)).Nodup := P.ws.keys ▸ P.dc.nodup
  have hwr : ∀ p ∈ ws, Rg p.2 := fun p hp => by
    obtain ⟨i, hi, rfl⟩ := List.getElem_of_mem hp
    obtain ⟨l, r', _, ⟨_, _, R⟩, _⟩ := P.ws.at P.dc.nodup hi
    exact R.hg
  refine enterC (binds := [(Str.ofString "slab", .ref x), (Str.ofString "world", .ref wD), (Str.ofString "y", .int y t2), (Str.ofString "z", .int z t3)]) C (by k_is) (by k_is) (BindsTo.of_eq rfl) rfl (by decide) (fun c A E s cells Y hne C Qr kQ => ?_) rfl rfl rfl
  obtain ⟨oM, rfl, hM⟩ := CellsAre.one Y
  have hv_world : cellO oM (.ref wD) := hM
  have hs0 : ∀ p ∈ led, p ∈ (c.L + 1, oM) :: led := fun p hp => .tail _ hp
  have P0 := P.mono hs0
  have W0 := W.mono hs0
  have nd0 := C.nd
  walk_at "xc"
  refine Assign_Tuple_swapped (names := [Str.ofString "free", Str.ofString "rows"]) ?_
  refine opv fun _ _ => ?_
  refine Tuple_ ?_
  refine spliced_more ?_
  refine Subscript_ ?_
  refine nm_k C (by walk_at "mm") hv_world rfl rfl rfl (by decide) ?_
  with_reducible refine k_str C fun t s C => ?_
  refine d_itemS C W0.hD W0.dc W0.vf (fun s C => ?_) (by with_unfolding_all rfl)
  refine spliced_more ?_
  refine Call_ ?_
  refine nm_gC C (by k_is) ?_ rfl rfl (by decide)
  refine cw_more C (by k_is) ?_
  refine spliced_more ?_
  refine Subscript_ ?_
  refine nm_k C (by walk_at "mm") hv_world rfl rfl rfl (by decide) ?_
  with_reducible refine k_str C fun t s C => ?_
  refine d_itemS C W0.hD W0.dc W0.vf (fun s C => ?_) (by with_unfolding_all rfl)
  refine spliced_none ?_
  refine ⟨C.Xs, ?_⟩
  refine lw_runs C W0.hf W0.sf (by lia) (fun x hx => by have := I.F x hx; lia) fun D1 vs1 j1 rows led1 s k1 hD1 hv1 hg hm hrl C => ?_
  refine spliced_none ?_
  refine mk_tup C (Nat.le_of_ble_eq_true rfl) fun D s C => ?_
  walk_at "op"
  refine unpack_tup C (.head _) rfl fun s C => ?_
  replace C := C.drop
  refine assignInOrder_cons ?_
  refine bd_lC C (fun s C => ?_) rfl rfl
  refine assignInOrder_cons ?_
  refine bd_lC C (fun s C => ?_) rfl rfl
  refine assignInOrder_nil ?_
  have er : rows = free := rg_uniq hg RF.hg fun x => (hm x).trans (S.F x).symm
  subst er
  have P1 := P0.mono k1
  have W1 := W0.mono k1
  have hfz : (lens rows).sum = fs.length := sum_lens hg W.sf.nd hm
  have hcM : (c.L + 1, oM) ∈ led1 := k1 _ (.head _)
  have nd1 := C.nd
  walk_at "xc"
  refine wpAny_Assign_Name ?_
  refine Call_ ?_
  refine nm_bC C (by k_is) (by boot_fast) ?_ (by decide) rfl rfl (by decide)
  refine PyProof.Rows.callWith_builtin1 ?_
  refine spliced_more ?_
  refine comp_dict (c := c) (n := n + 8) (cl := [(Str.ofString "world", c.L + 1)]) rfl (by decide) rfl (by decide) (fun _ => rfl) ?_
  refine Subscript_ ?_
  refine nm_k C (by walk_at "mm") hv_world rfl rfl rfl (by decide) ?_
  with_reducible refine k_str C fun t s C => ?_
  refine d_itemS C W1.hD W1.dc W1.vw (fun s C => ?_) (by with_unfolding_all rfl)
  refine ⟨_, _, vD, vO, vkvs, rfl, C, W1.hv, W1.dv, by rw [W1.wv.len]; lia, fun i ys led' => led' = led1 ∧ i ≤ ss.length ∧ IntsAre ys ((ss.take i).map fun p => (p.2.length : Int)), ?_, ⟨rfl, Nat.zero_le _, .nil⟩, ?_, ?_⟩
  · rintro i ys led' ⟨rfl, hi, hy⟩
    refine ⟨W1.hv, ?_⟩
    have := IntsAre.length hy
    rw [List.length_map, List.length_take] at this
    lia
  · rintro i ys led' s k v t E' a D oC m2 It o j hk ⟨rfl, hi, hy⟩ hn h2 C
    have hi' : i < ss.length := by have := (List.getElem?_eq_some_iff.mp hk).1; rw [W1.wv.len] at this; exact this
    obtain ⟨a5, o5, e5, h5, S5⟩ := W1.wv.at2 i hi'
    rw [e5, Option.some.injEq, Prod.mk.injEq] at hk
    obtain ⟨rfl, rfl⟩ := hk
    have hval := valueAt_get W1.dv.nodup e5
    have W2 := W1.mono (led' := (a, oC) :: (D, lstO ys j) :: (It, o) :: led') fun p hp => .tail _ (.tail _ (.tail _ hp))
    have hc := k1 _ (.head _)
    refine Call_ ?_
    refine nm_bv C (by k_is) (by boot_fast) ?_ (by decide) rfl rfl rfl rfl (by decide)
    refine PyProof.Rows.callWith_builtin1 ?_
    refine spliced_more ?_
    refine Subscript_ ?_
    refine Subscript_ ?_
    refine nm_k C (by walk_at "mm") hv_world rfl rfl rfl (by decide) ?_
    with_reducible refine k_str C fun t s C => ?_
    refine d_itemS C W2.hD W2.dc W2.vw (fun s C => ?_) (by with_unfolding_all rfl)
    refine nm_v C (by walk_at "mm") hn (by walk_at "lk") rfl rfl rfl (by decide) ?_
    refine d_item C W2.hv W2.dv hval (fun s C => ?_) (by with_unfolding_all rfl)
    refine spliced_none ?_
    refine o_len C (.tail _ (.tail _ (.tail _ h5))) S5 (by have := bd_len (b := b) (mn := mn) S5.nd (fun x hx => I.W _ x ⟨_, List.getElem_mem hi', hx⟩); lia) fun t s C => ?_
    refine ⟨_, _, _, hn, C, rfl, hi', ?_⟩
    rw [take_snoc hi', List.map_append]
    exact Mine.IntsAre.snoc hy _ _
  rintro ys led' s D j ⟨e1, hi, hy⟩ C
  have e1 := e1.symm
  subst e1
  refine spliced_none ?_
  rw [W1.wv.len, List.take_of_length_le (Nat.le_refl _), ← sum_waits S.ks hwn hwr W.wv.nds S.W] at hy
  refine b_sum C (.head _) hy fun t s C => ?_
  replace C := C.drop
  refine st_lC C (fun s C => ?_) rfl rfl
  have hrz : rows.length ≤ fs.length := hrl
  walk_at "xc"
  refine wpAny_Assign_Name ?_
  refine Call_ ?_
  refine nm_bC C (by k_is) (by boot_fast) ?_ (by decide) rfl rfl (by decide)
  refine PyProof.Rows.callWith_builtin1 ?_
  refine spliced_more ?_
  refine wpAny_BinOp ?_
  refine List_ ?_
  refine spliced_more ?_
  with_reducible refine k_int C fun t s C => ?_
  refine spliced_none ?_
  refine mk_list C (Nat.le_of_ble_eq_true rfl) fun Z s C => ?_
  refine rows_eval YI (fun _ => true) (fun r => r.2 - r.1) (cnd := none) (cl := []) C YI0 YIl rfl (by decide) rfl (by decide) (fun _ => rfl) (fun _ => rfl) (by decide) ?_
  refine nm_lC C (by walk_at "lk") ?_ rfl rfl (by decide)
  refine ⟨_, _, D1, vs1, j1, rows, rfl, C, .tail _ hD1, hv1.mono fun p hp => .tail _ hp, by lia, ?_, ?_⟩
  · intro i hi ys led' s E' a D oC m2 I o j t1 t2 hs hn h1 h2 C
    refine wpAny_BinOp ?_
    refine nm_v C (by walk_at "mm") hn (by walk_at "lk") rfl rfl rfl (by decide) ?_
    refine nm_v C (by walk_at "mm") hn (by walk_at "lk") rfl rfl rfl (by decide) ?_
    with_reducible refine a_sub C fun t s C => ?_
    exact ⟨_, _, _, hn, C, fun _ h => h, rfl, fun zs h => Mine.IntsAre.snoc h _ _⟩
  intro ys led' hs hy s D j C
  rw [lens_all] at hy
  have hyl := IntsAre.length hy
  refine a_list C (.tail _ (hs _ (.head _))) (.head _) (by rw [hyl]; unfold lens; rw [List.length_map]; simp; lia) fun D2 s C => ?_
  refine spliced_none ?_
  refine b_maxl C (.head _) (Mine.IntsAre.append (.cons 0 _ .nil) hy) (by simp) fun M t s hM1 hM2 C => ?_
  have hM : IsMax (0 :: lens rows) M := ⟨hM1, hM2⟩
  replace C := C.drop.drop.back (fun p hp => hs _ (.tail _ hp)) nd1
  refine st_lC C (fun s C => ?_) rfl rfl
  walk_at "xc"
  refine wpAny_Assign_Name ?_
  refine ifexp_int C (i := wtI fs.length M) (fun Qj kj => ?_) fun t s C => ?_
  · refine opv fun _ _ => ?_
    refine wpAny_isTrue_Compare1 ?_
    refine wpAny_BinOp ?_
    with_reducible refine k_int C fun t s C => ?_
    refine nm_lC C (by walk_at "lk") ?_ rfl rfl (by decide)
    with_reducible refine a_mul C (by mul_fits) fun t s C => ?_
    refine Call_ ?_
    refine nm_bC C (by k_is) (by boot_fast) ?_ (by decide) rfl rfl (by decide)
    refine PyProof.Rows.callWith_builtin1 ?_
    refine spliced_more ?_
    refine nm_lC C (by walk_at "lk") ?_ rfl rfl (by decide)
    refine spliced_none ?_
    refine o_len C W1.hf W1.sf (by lia) fun t s C => ?_
    refine ge_int ?_
    refine wpAny_truthy_bool ?_
    walk_at "op"
    refine ite_dec (fun g => ?_) (fun g => ?_)
    · refine Call_ ?_
      refine nm_bC C (by k_is) (by boot_fast) ?_ (by decide) rfl rfl (by decide)
      refine PyProof.Rows.callWith_builtin1 ?_
      refine spliced_more ?_
      refine nm_lC C (by walk_at "lk") ?_ rfl rfl (by decide)
      refine spliced_none ?_
      refine o_len C W1.hf W1.sf (by lia) fun t s C => ?_
      rw [show (fs.length : Int) = wtI fs.length M from (if_pos g).symm]
      exact kj _ _ C
    · refine opv fun _ _ => ?_
      refine wpAny_BinOp ?_
      refine opv fun _ _ => ?_
      refine wpAny_BinOp ?_
      refine Call_ ?_
      refine nm_bC C (by k_is) (by boot_fast) ?_ (by decide) rfl rfl (by decide)
      refine PyProof.Rows.callWith_builtin1 ?_
      refine spliced_more ?_
      refine nm_lC C (by walk_at "lk") ?_ rfl rfl (by decide)
      refine spliced_none ?_
      refine o_len C W1.hf W1.sf (by omega) fun t s C => ?_
      refine wpAny_BinOp ?_
      with_reducible refine k_int C fun t s C => ?_
      refine nm_lC C (by walk_at "lk") ?_ rfl rfl (by decide)
      with_reducible refine a_mul C (by mul_fits) fun t s C => ?_
      with_reducible refine a_add C fun t s C => ?_
      walk_at "op"
      with_reducible refine k_int C fun t s C => ?_
      refine a_half C (by decide) (PyProof.noPylong_of_log2 (by decide +kernel)) fun t s C => ?_
      walk_at "op"
      rw [show ((fs.length : Int) + 2 * M).fdiv 2 = wtI fs.length M from (if_neg g).symm]
      exact kj _ _ C
  refine st_lC C (fun s C => ?_) rfl rfl
  walk_at "xc"
  refine wpAny_If ?_
  refine opv fun _ _ => ?_
  refine wpAny_isTrue_Compare1 ?_
  refine opv fun _ _ => ?_
  refine List_ ?_
  refine spliced_more ?_
  refine MethodCall_ ?_
  refine nm_lC C (by walk_at "lk") ?_ rfl rfl (by decide)
  refine ms_room C P1.hx P1.hS P1.so ?_
  refine cw_none C (by k_is) ?_
  refine sl_room C P1 fun t s C => ?_
  refine spliced_more ?_
  refine MethodCall_ ?_
  refine nm_lC C (by walk_at "lk") ?_ rfl rfl (by decide)
  refine ms_waiting C P1.hx P1.hS P1.so ?_
  refine cw_none C (by k_is) ?_
  refine sl_waiting C P1 (by lia) fun t s C => ?_
  refine spliced_more ?_
  refine MethodCall_ ?_
  refine nm_lC C (by walk_at "lk") ?_ rfl rfl (by decide)
  refine ms_weight C P1.hx P1.hS P1.so ?_
  refine cw_none C (by k_is) ?_
  refine sl_weight C P1 fun M2 v t s hM2 hv C => ?_
  refine spliced_none ?_
  refine mk_list C (Nat.le_of_ble_eq_true rfl) fun L1 s C => ?_
  walk_at "op"
  refine opv fun _ _ => ?_
  refine List_ ?_
  refine spliced_more ?_
  refine Call_ ?_
  refine nm_bC C (by k_is) (by boot_fast) ?_ (by decide) rfl rfl (by decide)
  refine PyProof.Rows.callWith_builtin1 ?_
  refine spliced_more ?_
  refine nm_lC C (by walk_at "lk") ?_ rfl rfl (by decide)
  refine spliced_none ?_
  refine o_len C (.tail _ W1.hf) W1.sf (by lia) fun t s C => ?_
  refine spliced_more ?_
  refine nm_lC C (by walk_at "lk") ?_ rfl rfl (by decide)
  refine spliced_more ?_
  refine nm_lC C (by walk_at "lk") ?_ rfl rfl (by decide)
  refine spliced_none ?_
  refine mk_list C (Nat.le_of_ble_eq_true rfl) fun L2 s C => ?_
  walk_at "op"
  refine ne_ints C (.tail _ (.head _)) (.cons _ _ (.cons _ _ (.cons _ _ .nil))) (.head _) (.cons _ _ (.cons _ _ (.cons _ _ .nil))) ?_
  refine wpAny_truthy_bool ?_
  walk_at "op"
  refine ite_f (by rw [hv, hM2.uniq hM, hfz, decide_eq_true rfl]; rfl) ?_
  walk_at "xn"
  replace C := C.drop.drop
  have hIW : ∀ p ∈ ss, ∀ x ∈ p.2, b ≤ x ∧ x < b + mn := fun p hp x hx => I.W p.1 x ⟨p.2, hp, hx⟩
  obtain ⟨tb, vb⟩ := W1.vb
  obtain ⟨tm, vm⟩ := W1.vm
  walk_at "xc"
  refine wpAny_If ?_
  refine t_or C (p := false) (q := false) (fun s R C k => ?_) (fun s R C k => ?_) fun s C => ?_
  · refine opv fun _ _ => ?_
    refine wpAny_isTrue_Compare1 ?_
    refine MethodCall_ ?_
    refine MethodCall_ ?_
    refine nm_lC C (by walk_at "lk") ?_ rfl rfl (by decide)
    refine ms_mapped C P1.hx P1.hS P1.so ?_
    refine cw_none C (by k_is) ?_
    refine sl_mapped C P1 (by lia) (by rw [S.ks]; exact I.asc.imp fun h => Int.le_of_lt h) (by lia) hmn (by lia) fun r2 l2 rows2 led2 s k2 f2 R2 hm2 C => ?_
    obtain ⟨i2, q2, R2'⟩ := R2
    have hcM2 := k2 _ hcM
    refine mr_parts C R2'.hr ?_
    refine cw_none C (by k_is) ?_
    refine spec_parts C R2' fun D3 j3 s C => ?_
    refine Call_ ?_
    refine nm_gC C (by k_is) ?_ rfl rfl (by decide)
    refine cw_more C (by k_is) ?_
    refine spliced_more ?_
    refine Call_ ?_
    refine nm_gC C (by k_is) ?_ rfl rfl (by decide)
    refine cw_more C (by k_is) ?_
    refine spliced_more ?_
    refine nm_k C (by walk_at "mm") hv_world rfl rfl rfl (by decide) ?_
    refine spliced_none ?_
    refine ⟨C.Xs, ?_⟩
    have W3 := C.wlup (W1.mono k2)
    refine lw_given C W3 (by omega) hmn hm40 (by omega) I.F hIW fun D4 o4 vs4 led4 s k4 hD4 S4 hm4 C => ?_
    refine spliced_none ?_
    refine ⟨C.Xs, ?_⟩
    refine lw_runs C hD4 S4 (by have := bd_len S4.nd (fun x hx => ((hm4 x).mp hx).1); lia) (fun x hx => by have := ((hm4 x).mp hx).1; lia) fun D5 vs5 j5 rows5 led5 s k5 hD5 hv5 hg5 hm5 hrl5 C => ?_
    refine ne_rows C (k5 _ (k4 _ (.head _))) (R2'.hv.mono fun p hp => k5 _ (k4 _ (.tail _ hp))) hD5 hv5 ?_
    refine wpAny_truthy_bool ?_
    walk_at "op"
    have e5 : rows2 = rows5 := rg_uniq R2'.hg hg5 fun x => by
      rw [hm2 x, hm5 x, hm4 x]
      refine and_congr Iff.rfl (and_congr (not_congr (S.F x)) ⟨fun q p hp z => ?_, fun q p hp z => ?_⟩)
      · obtain ⟨rr, z1, z2⟩ := (S.W p.1 x).mpr ⟨p.2, hp, z⟩
        exact q _ z1 z2
      · obtain ⟨ns, z1, z2⟩ := (S.W p.1 x).mp ⟨p.2, hp, z⟩
        exact q _ z1 z2
    rw [show (!decide (rows2 = rows5)) = false by rw [decide_eq_true e5]; rfl]
    exact k _ (C.back (fun p hp => k5 _ (k4 _ (.tail _ (k2 p hp)))) nd1)
  · refine opv fun _ _ => ?_
    refine wpAny_isTrue_Compare1 ?_
    refine MethodCall_ ?_
    refine nm_lC C (by walk_at "lk") ?_ rfl rfl (by decide)
    refine ms_end C P1.hx P1.hS P1.so ?_
    refine cw_none C (by k_is) ?_
    refine sl_end C P1 fun t s C => ?_
    refine opv fun _ _ => ?_
    refine wpAny_BinOp ?_
    refine Subscript_ ?_
    refine nm_k C (by walk_at "mm") hv_world rfl rfl rfl (by decide) ?_
    with_reducible refine k_str C fun t s C => ?_
    refine d_itemS C W1.hD W1.dc vb (fun s C => ?_) (by with_unfolding_all rfl)
    refine Subscript_ ?_
    refine nm_k C (by walk_at "mm") hv_world rfl rfl rfl (by decide) ?_
    with_reducible refine k_str C fun t s C => ?_
    refine d_itemS C W1.hD W1.dc vm (fun s C => ?_) (by with_unfolding_all rfl)
    with_reducible refine a_add C fun t s C => ?_
    walk_at "op"
    refine ne_int ?_
    refine wpAny_truthy_bool ?_
    walk_at "op"
    rw [show (b + mn != b + mn) = false from bne_self_eq_false _]
    exact k _ C
  refine ite_f rfl ?_
  walk_at "xn"
  have hy0 : 0 ≤ y.fmod mn := Int.fmod_nonneg_of_pos _ (by lia)
  have hy1 : y.fmod mn < mn := Int.fmod_lt_of_pos _ (by lia)
  have hz0 : 0 ≤ z.fmod 3 := Int.fmod_nonneg_of_pos _ (by decide)
  have hz1 : z.fmod 3 < 3 := Int.fmod_lt_of_pos _ (by decide)
  walk_at "xc"
  refine Assign_Tuple_swapped (names := [Str.ofString "sector", Str.ofString "count"]) ?_
  refine opv fun _ _ => ?_
  refine Tuple_ ?_
  refine spliced_more ?_
  refine opv fun _ _ => ?_
  refine wpAny_BinOp ?_
  refine Subscript_ ?_
  refine nm_k C (by walk_at "mm") hv_world rfl rfl rfl (by decide) ?_
  with_reducible refine k_str C fun t s C => ?_
  refine d_itemS C W1.hD W1.dc vb (fun s C => ?_) (by with_unfolding_all rfl)
  refine wpAny_BinOp ?_
  refine nm_lC C (by walk_at "lk") ?_ rfl rfl (by decide)
  refine Subscript_ ?_
  refine nm_k C (by walk_at "mm") hv_world rfl rfl rfl (by decide) ?_
  with_reducible refine k_str C fun t s C => ?_
  refine d_itemS C W1.hD W1.dc vm (fun s C => ?_) (by with_unfolding_all rfl)
  refine a_mod C (by lia) fun t s C => ?_
  with_reducible refine a_add C fun t s C => ?_
  walk_at "op"
  refine spliced_more ?_
  refine wpAny_BinOp ?_
  with_reducible refine k_int C fun t s C => ?_
  refine wpAny_BinOp ?_
  refine nm_lC C (by walk_at "lk") ?_ rfl rfl (by decide)
  with_reducible refine k_int C fun t s C => ?_
  with_reducible refine a_mod C (by decide) fun t s C => ?_
  with_reducible refine a_add C fun t s C => ?_
  refine spliced_none ?_
  refine mk_tup C (Nat.le_of_ble_eq_true rfl) fun D s C => ?_
  walk_at "op"
  refine unpack_tup C (.head _) rfl fun s C => ?_
  replace C := C.drop
  refine assignInOrder_cons ?_
  refine bd_lC C (fun s C => ?_) rfl rfl
  refine assignInOrder_cons ?_
  refine bd_lC C (fun s C => ?_) rfl rfl
  refine assignInOrder_nil ?_
  obtain ⟨sec, hse⟩ : ∃ sec, b + y.fmod mn = sec := ⟨_, rfl⟩
  obtain ⟨cnt, hce⟩ : ∃ cnt, 1 + z.fmod 3 = cnt := ⟨_, rfl⟩
  obtain ⟨kk, hkk⟩ : ∃ kk, min cnt (b + mn - sec) = kk := ⟨_, rfl⟩
  rw [hse, hce] at C
  have hs1 : b ≤ sec := by lia
  have hs2 : sec < b + mn := by lia
  have hc1 : 1 ≤ cnt := by lia
  have hc2 : cnt ≤ 3 := by lia
  have hk1 : kk ≤ cnt := hkk ▸ Int.min_le_left _ _
  have hk2 : kk ≤ b + mn - sec := hkk ▸ Int.min_le_right _ _
  have hk3 : kk = cnt ∨ kk = b + mn - sec := by rw [← hkk, Int.min_def]; split; exact .inl rfl; exact .inr rfl
  have hk0 : 0 ≤ kk := by rcases hk3 with h | h <;> omega
  clear hse hce hkk hy0 hy1 hz0 hz1
  walk_at "xc"
  refine wpAny_Assign_Name ?_
  refine opv fun _ _ => ?_
  refine wpAny_BinOp ?_
  refine opv fun _ _ => ?_
  refine Call_ ?_
  refine nm_bC C (by k_is) (by boot_fast) ?_ (by decide) rfl rfl (by decide)
  refine PyProof.Rows.callWith_type1 ?_
  refine spliced_more ?_
  refine opv fun _ _ => ?_
  refine Call_ ?_
  refine nm_bC C (by k_is) (by boot_fast) ?_ (by decide) rfl rfl (by decide)
  refine PyProof.Rows.callWith_type1 ?_
  refine spliced_more ?_
  refine nm_lC C (by walk_at "lk") ?_ rfl rfl (by decide)
  refine spliced_more ?_
  refine wpAny_BinOp ?_
  refine nm_lC C (by walk_at "lk") ?_ rfl rfl (by decide)
  refine nm_lC C (by walk_at "lk") ?_ rfl rfl (by decide)
  with_reducible refine a_add C fun t s C => ?_
  refine spliced_none ?_
  refine b_range C fun R v s C => ?_
  walk_at "op"
  refine spliced_none ?_
  refine o_range C (by lia) (by lia) (by lia) (by lia) (by lia) fun D6 o6 ns6 s S6 hm6 C => ?_
  walk_at "op"
  refine Call_ ?_
  refine nm_gC C (by k_is) ?_ rfl rfl (by decide)
  refine cw_more C (by k_is) ?_
  refine spliced_more ?_
  refine nm_k C (by walk_at "mm") hv_world rfl rfl rfl (by decide) ?_
  refine spliced_none ?_
  refine ⟨C.Xs, ?_⟩
  have W6 := C.wlup W1
  have hcM6 : (c.L + 1, oM) ∈ (D6, o6) :: led1 := .tail _ hcM
  refine lw_all C W6 (by lia) hmn hm40 (by lia) fun D7 o7 ns7 s S7 hm7 C => ?_
  refine o_and C (C.ne _ (.head _)) (.tail _ (.head _)) S6 (.head _) S7 (by have := bd_len S6.nd (fun x hx => (hm6 x).mp hx); lia) (by have := bd_len S7.nd (fun x hx => (hm7 x).mp hx); lia) fun D8 o8 ns8 s S8 hm8 C => ?_
  walk_at "op"
  refine st_lC C (fun s C => ?_) rfl rfl
  have hm8' : ∀ x, x ∈ ns8 ↔ sec ≤ x ∧ x < sec + kk := fun x => by rw [hm8 x, hm6 x, hm7 x]; exact clip_iff hk1 hk2 hk3 hs1
  have hl8 : (ns8.length : Int) = kk := len_upto S8.nd (by lia) hm8'
  have k8 : ∀ p ∈ led1, p ∈ (D8, o8) :: (D7, o7) :: (D6, o6) :: led1 := fun p hp => .tail _ (.tail _ (.tail _ hp))
  have P8 := P1.mono k8
  have W8 := W1.mono k8
  have hcM8 := k8 _ hcM
  walk_at "xc"
  refine wpAny_Return_some ?_
  refine BoolOp_and ?_
  refine opv fun _ _ => ?_
  refine wpAny_Compare1 ?_
  refine opv fun _ _ => ?_
  refine MethodCall_ ?_
  refine nm_lC C (by walk_at "lk") ?_ rfl rfl (by decide)
  refine ms_is_given C P8.hx P8.hS P8.so ?_
  refine cw_more C (by k_is) ?_
  refine spliced_more ?_
  refine nm_lC C (by walk_at "lk") ?_ rfl rfl (by decide)
  refine spliced_more ?_
  refine Call_ ?_
  refine nm_bC C (by k_is) (by boot_fast) ?_ (by decide) rfl rfl (by decide)
  refine PyProof.Rows.callWith_builtin1 ?_
  refine spliced_more ?_
  refine nm_lC C (by walk_at "lk") ?_ rfl rfl (by decide)
  refine spliced_none ?_
  refine o_len C (.head _) S8 (by lia) fun t s C => ?_
  refine spliced_none ?_
  refine ⟨C.Xs, ?_⟩
  refine sl_given C P8 (by lia) (by lia) (by lia) fun v1 s hv1 C => ?_
  walk_at "op"
  refine wpAny_Compare1 ?_
  refine nm_lC C (by walk_at "lk") ?_ rfl rfl (by decide)
  refine Call_ ?_
  refine nm_gC C (by k_is) ?_ rfl rfl (by decide)
  refine cw_more C (by k_is) ?_
  refine spliced_more ?_
  refine nm_k C (by walk_at "mm") hv_world rfl rfl rfl (by decide) ?_
  refine spliced_none ?_
  refine ⟨C.Xs, ?_⟩
  refine lw_given C W8 (by lia) hmn hm40 (by lia) I.F hIW fun D9 o9 vs9 led9 s k9 hD9 S9 hm9 C => ?_
  refine o_le C (k9 _ (.head _)) S8 hD9 S9 (by have := bd_len S9.nd (fun x hx => ((hm9 x).mp hx).1); omega) fun v2 hv2 => ?_
  refine eq_bool ?_
  walk_at "op"
  rw [hl8] at hv1
  rw [given_same S.F S.W (by lia) (by lia) hm8' hv1 hm9 hv2]
  refine wpAny_truthy_bool ?_
  refine ite_t rfl ?_
  refine BoolOp_one ?_
  have P9 := P8.mono k9
  refine opv fun _ _ => ?_
  refine wpAny_Compare1 ?_
  refine MethodCall_ ?_
  refine nm_lC C (by walk_at "lk") ?_ rfl rfl (by decide)
  refine ms_covers C P9.hx P9.hS P9.so ?_
  refine cw_more C (by k_is) ?_
  refine spliced_more ?_
  refine nm_lC C (by walk_at "lk") ?_ rfl rfl (by decide)
  refine spliced_more ?_
  refine nm_lC C (by walk_at "lk") ?_ rfl rfl (by decide)
  refine spliced_none ?_
  refine ⟨C.Xs, ?_⟩
  refine sl_covers C P9 fun v3 s hv3 C => ?_
  refine wpAny_Compare1 ?_
  refine Call_ ?_
  refine nm_bC C (by k_is) (by boot_fast) ?_ (by decide) rfl rfl (by decide)
  refine PyProof.Rows.callWith_builtin1 ?_
  refine spliced_more ?_
  refine nm_lC C (by walk_at "lk") ?_ rfl rfl (by decide)
  refine spliced_none ?_
  refine o_len C (k9 _ (.head _)) S8 (by omega) fun t s C => ?_
  refine nm_lC C (by walk_at "lk") ?_ rfl rfl (by decide)
  refine eq_int ?_
  refine eq_bool ?_
  walk_at "op"
  rw [hl8, show (v3 == (kk == cnt)) = true by rw [beq_iff_eq, Bool.eq_iff_iff, hv3, beq_iff_eq]; exact clip_eq hk1 hk2 hk3 hs1 (by lia)]
  try walk_at "rt"
  exact kQ _ _ _ _ (C.back (fun p hp => k9 _ (k8 _ (k1 _ hp))) nd0) (fun C => K _ C.drop)
end
end Mine
end

section
open PySem PySem.W PySem.Calls PyProof.Rows PyProof.Rows.LCg
namespace Mine
section
variable {prog : Program} {w : World} {c : Cfg} {A : Around} {n : Nat} {m : Loc} {led : Led} {s : Shared} {E : Value → Shared → Prop}
noncomputable def IsRi (o : Obj) (i N : Nat) : Prop := o = { cls := .type "range_iterator", dict := none, data := .fields #[rawInt i, rawInt ((N : Int) - i), rawInt 1], slots := #[] }
theorem b_range1 {a : Int} {t : Tok} {Q : Value → Shared → Prop} (C : Cx w c A n m led s) (h : ∀ D u v s, Cx w c A n m ((D, rangeO 0 a 1 u t v) :: led) s → Q (.ref D) s) : wpAny (model prog w) A (call (.type "range") [.int a t]) Q E s :=
  call_range_1 (h _ _ _ _ (C.new (s' := { s with heap := s.heap.push _, toks := s.toks + 1 + 1 }) (fun _ _ e => Heap.get?_push_of_some _ e) (Heap.get?_push_size _ rfl) rfl))
theorem iter_range {r : Addr} {N : Nat} {t u v : Tok} {Q : Value → Shared → Prop} (C : Cx w c A n m led s) (hm : (r, rangeO 0 (N : Int) 1 t u v) ∈ led) (hN : N ≤ 1000) (h : ∀ I o s, IsRi o 0 N → Cx w c A n m ((I, o) :: led) s → Q (.ref I) s) : wpAny (model prog w) A (pyIter (.ref r)) Q E s := by
  refine wpAny_pyIter_range (C.get hm) (small_one (by lia) (by lia) (by lia) (by lia)) ?_
  refine h _ _ _ ?_ (C.new (s' := { s with heap := s.heap.push _ }) (fun _ _ e => Heap.get?_push_of_some _ e) (Heap.get?_push_size _ rfl) rfl)
  unfold IsRi
  rw [rangeSize_one, show (if (0 : Int) < (N : Int) then (N : Int) - 0 else 0) = (N : Int) - ((0 : Nat) : Int) by split <;> omega]
  rfl
theorem for_range {x : Str} {px : Pos} {I : Addr} {o : Obj} {N : Nat} {body orelse : List Stmt} {env : Env} {R : Result → Shared → Prop} (C : Cx w c A n m ((I, o) :: led) s) (hI : IsRi o 0 N)
    (J : Nat → Loc → Led → Cfg → Prop) (h0 : J 0 m led c)
    (turn : ∀ i m led c s E' o t, i < N → J i m led c → o.cls = .type "range_iterator" → Cx w c A n m ((I, o) :: led) s →
      ∀ T : Flow → Shared → Prop, (∀ s m' led' c', Cx w c' A n m' ((I, o) :: led') s → J (i + 1) m' led' c' → T .next s) →
      wpAny (model prog w) A (assign (.Name x px) env (.int i t)) (fun _ s => wpAny (model prog w) A (execs body env) T E' s) E' s)
    (done : ∀ m led c s E', J N m led c → Cx w c A n m led s → wpAny (model prog w) A (execs orelse env) (fun f s => R (.ok f) s) E' s) :
    codeAny (model prog w) A (.forLoop (.Name x px) (.ref I) body orelse env) R s := by
  refine codeAny_loop' rfl (ForC w A n I N (fun o i => IsRi o i N) fun i c m led => J i m led c) (fun d s IH => ?_) N ⟨0, c, m, led, o, rfl, Nat.zero_le _, hI, C, h0⟩
  obtain ⟨i, c, m, led, o, rfl, hi, hI, C, hj⟩ := IH
  have hit : IsRangeIter s.heap I (i : Int) ((N : Int) - i) 1 := by
    have := C.get (.head _)
    rw [hI] at this; exact this
  show wpAny _ _ ((forTurn (.Name x px) (.ref I) body orelse env).onRaise (fun x => do noteFrame x env; theTreesLotGoes x)) _ _ s
  refine wpAny_noted ?_
  simp only [forTurn]
  refine wpAny_bind (wpAny_standAt (wpAny_bind (wpAny_onRaise ?_)))
  by_cases hlt : i < N
  · refine wpAny_pyNext_range_item hit (by lia) fun h' hit' hs => ?_
    have hI' : IsRi { cls := .type "range_iterator", dict := none, data := .fields #[rawInt ((i : Int) + 1), rawInt ((N : Int) - i - 1), rawInt 1], slots := #[] } (i + 1) N := by
      unfold IsRi
      rw [show ((i + 1 : Nat) : Int) = (i : Int) + 1 by lia, show (N : Int) - ((i : Int) + 1) = (N : Int) - i - 1 by lia]
    have C' : Cx w c A n m ((I, _) :: led) { s with heap := h', toks := s.toks + 1 } := C.set hs hit'
    refine wpAny_bind (wpAny_pure (a := ()) ?_)
    refine wpAny_bind (wpAny_mono (turn i m led c _ _ _ _ hlt hj rfl C' (fun f s => f = .next ∧ ∃ d', d' < N - i ∧ ForC w A n I N (fun o i => IsRi o i N) (fun i c m led => J i m led c) d' s) (fun _ a b c C j => ⟨rfl, N - (i + 1), by omega, i + 1, c, a, b, _, rfl, hlt, hI', C, j⟩)) (fun _ s₂ h₂ => wpAny_bind (wpAny_mono h₂ (fun f s₃ h₃ => ?_) fun _ _ h' => h')) fun _ _ h' => h')
    obtain ⟨rfl, h₃⟩ := h₃
    exact wpAny_pure (.inl ⟨rfl, h₃⟩)
  · have e : i = N := by lia
    subst e
    refine wpAny_pyNext_range_end C.hh hit (by lia) fun h' he => ?_
    exact wpAny_pure (.inr ⟨rfl, codeAny_block (done m led c _ _ hj (C.forget (s' := { s with heap := h' }) he))⟩)
theorem draw_lst {I l : Addr} {vs : List Value} {k : Nat} : ∀ (j i : Nat) (o : Obj) (s : Shared) (Q : List Value → Shared → Prop), Cx w c A n m ((I, o) :: led) s → IsLi o l i → (l, lstO vs k) ∈ led → i + j ≤ vs.length →
    (∀ o s, IsLi o l (i + j) → Cx w c A n m ((I, o) :: led) s → Q ((vs.drop i).take j) s) → wpAny (model prog w) A (draw (.ref I) j) Q E s
  | 0, i, o, s, Q, C, hI, _, _, h => by
    show wpAny _ _ (pure []) Q E s
    exact wpAny_pure (by simpa using h o s hI C)
  | j + 1, i, o, s, Q, C, hI, hm, hle, h => by
    have hlt : i < vs.length := by lia
    show wpAny _ _ (pyNext (.ref I) >>= _) Q E s
    refine wpAny_bind (next_item C hI hm (List.getElem?_eq_getElem hlt) fun o s hI C => ?_)
    refine wpAny_bind (wpAny_holding (draw_lst j (i + 1) o s _ C hI hm (by lia) fun o s hI C => wpAny_pure ?_))
    have := h o s (by rw [show i + (j + 1) = i + 1 + j by lia]; exact hI) C
    rw [List.drop_eq_getElem_cons hlt, List.take_succ_cons] at this
    exact this
theorem as_lst {env : Env} {elts : List PySem.Expr} {k j : Nat} {pos : Pos} {l : Addr} {vs : List Value} {Q : Unit → Shared → Prop} (C : Cx w c A n m led s) (hm : (l, lstO vs j) ∈ led)
    (hn : (assignEach elts env).length = vs.length) (hstar : (assignEach elts env).findIdx? (·.1) = none)
    (h : ∀ s, Cx w c A n m led s → wpAny (model prog w) A (assignInOrder ((assignEach elts env).map (·.2)) vs) Q E s) : wpAny (model prog w) A (assign (.Tuple elts k pos) env (.ref l)) Q E s := by
  rw [assign_Tuple]
  refine wpAny_bind (wpAny_standAt ?_)
  unfold unpack
  rw [hn, hstar]
  refine wpAny_bind (wpAny_holding ?_)
  unfold unpackItems
  refine wpAny_bind ?_
  unfold notIterableAtAll
  refine wpAny_bind (wpAny_specialOf (C.lst hm).typeIs slot_list_iter.lookup ?_)
  refine wpAny_pure ?_
  simp only [Bool.false_eq_true, if_false]
  refine wpAny_bind (wpAny_holding (iter_list C hm fun I o s hI C => ?_))
  refine wpAny_bind (wpAny_holding (draw_lst vs.length 0 o s _ C hI hm (by lia) fun o s hI C => ?_))
  rw [List.drop_zero, List.take_of_length_le (Nat.le_refl _), if_neg (by simp)]
  refine wpAny_bind (wpAny_holding (next_end C hI hm (List.getElem?_eq_none (by lia)) fun s C => ?_))
  simp only [Option.isSome_none, Bool.false_eq_true, if_false]
  exact wpAny_pure (h s C)
theorem it_run {value slice : PySem.Expr} {l sl : Addr} {items : List Value} {k i j : Nat} {t u : Tok} {Q : Value → Shared → Prop} (C : Cx w c A n m led s) (hm : (l, lstO items k) ∈ led) (hsl : s.heap.IsSliceOf sl (.int ((i : Nat) : Int) t) (.int ((j : Nat) : Int) u) .none) (hi : i ≤ j) (hj : j ≤ items.length) (hz : items.length ≤ 100000)
    (h : ∀ D s, Cx w c A n m ((D, lstO ((items.drop i).take (j - i)) 0) :: led) s → Q (.ref D) s) (hs : subscripted slice false (.ref l) (.ref sl) = operate [.ref sl, .ref l] (getItem (.ref l) (.ref sl))) :
    wpAny (model prog w) A (subscriptTail value slice (.ref l) (.ref sl)) Q E s := by
  refine tail_any (C.lst hm).typeIs slot_list_getitem.lookup (wpAny_getItem_list_slice (C.lst hm) hsl (.int _ _) (.int _ _) .none (by simp) ?_ (by rw [List.size_toArray, sizeLine_eq]; lia)) hs
  rw [slicePick_run _ _ _ (by simpa using hj) hi]
  exact h _ _ (C.new (s' := { s with heap := s.heap.push _ }) (fun _ _ e => Heap.get?_push_of_some _ e) (Heap.get?_push_size _ rfl) rfl)
theorem dict_disp {keys : List (Option PySem.Expr)} {values : List PySem.Expr} {pos : Pos} {env : Env} {Q : Value → Shared → Prop} (C : Cx w c A n m led s) (hs : strLits keys = true) (hall : keys.all (·.isSome) = true) (hl : keys.length = values.length) (h0 : keys ≠ []) (hlen : keys.length ≤ 15)
    (h : ∀ d o s, DcS prog w d o [] → Cx w c A n m ((d, o) :: led) s → wpAny (model prog w) A (evalPairs (pairTrees keys values env pos)) (fun vs s₁ => KdnMade prog w (PySem.strKind prog w) d Q vs s₁) E s) :
    wpAny (model prog w) A (eval (.Dict keys values pos) env) Q E s :=
  kdn_str hs C.F C.N C.TR.nolimit hall hl h0 hlen fun d h' o F' N' l lo hd => h d o _ ⟨lo, hd⟩ (C.of_news F' N' l)
theorem dict_made {d : Addr} {o : Obj} {vs : List (Value × Value)} {Q : Value → Shared → Prop} (C : Cx w c A n m ((d, o) :: led) s) (hd : DcS prog w d o []) (hk : allStrKeys vs = true) (hn : ((strPairs vs).map (·.1)).Nodup)
    (h : ∀ o s, DcS prog w d o (strPairs vs) → Cx w c A n m ((d, o) :: led) s → Q (.ref d) s) : KdnMade prog w (PySem.strKind prog w) d Q vs s :=
  kdn_made_str C.F C.N (.head C.ne) hd.is hk hn fun h' o' F' N' hd' => h o' _ ⟨hd.lo, hd'⟩ (C.step F' N' C.nd)
end
end Mine
end

section
open PySem PySem.W PySem.Calls PyProof.Rows PyProof.Rows.LCg
namespace Mine
section
variable {prog : Program} {w : World} {c : Cfg} {A : Around} {n : Nat} {m : Loc} {led : Led} {s : Shared} {E : Value → Shared → Prop}
theorem ne_same {v v' : Value} {Q : Value → Shared → Prop} (h : SameV v v') (k : Q (.bool false) s) : wpAny (model prog w) A (compareOp .NotEq v v') Q E s := by
  rcases h with ⟨rfl, rfl⟩ | ⟨p, t, t', rfl, rfl⟩ | ⟨⟨t, rfl⟩, ⟨t', rfl⟩⟩
  · exact EqNone.ne_none_none k
  · refine PyProof.Rows.ne_int ?_
    rw [bne_self_eq_false]; exact k
  · refine PyProof.Rows.ne_str ?_
    rw [bne_self_eq_false]; exact k
theorem DcS.mut {d : Addr} {o : Obj} {kvs : List (Str × Value)} (h : DcS prog w d o kvs) (hb : (valueAt kvs "begin").isSome = true) : Mut o := by
  obtain ⟨es, ep, x, hd, hk, hp, hn⟩ := h.is
  refine ⟨by rw [x.1]; simp, by rw [x.1]; simp, fun hs tk l k q => ?_⟩
  rw [q] at hd
  simp only [dictOf, Data.dict.injEq] at hd
  obtain ⟨e1, _⟩ := hd
  rw [← e1] at hp
  cases hp with
  | cons h1 h2 h3 =>
    cases h3
    rename_i kv
    obtain ⟨k1, v1⟩ := kv
    have e2 : Str.ofString "rows" = k1 := by
      obtain ⟨t, q⟩ := Value.isStrOf_shape (show Value.isStrOf k1 (.str (Str.ofString "rows") tk) = true from h1)
      cases q; rfl
    subst e2
    have e3 : valueAt [(Str.ofString "rows", v1)] (Str.ofString "begin") = none := by
      unfold valueAt
      rw [List.find?_cons_of_neg (by rw [decide_eq_true_eq]; show ¬ (Str.ofString "rows" = Str.ofString "begin"); decide)]; rfl
    rw [e3] at hb
    cases hb
variable {wD : Addr} {oD : Obj} {kvsD : List (Str × Value)} {fA : Addr} {fO : Obj} {vD : Addr} {vO : Obj} {vkvs : List (Int × Value)} {b mn g cur : Int} {fs : List Int} {ss : List (Int × List Int)}
theorem WlP.muts (W : WlP prog w led wD oD kvsD fA fO vD vO vkvs b mn g cur fs ss) : ∀ a ∈ [wD, vD], ∃ o, (a, o) ∈ led ∧ Mut o := by
  exact List.forall_mem_cons.mpr ⟨⟨_, W.hD, W.dc.mut (by obtain ⟨t, e⟩ := W.vb; rw [e]; rfl)⟩, List.forall_mem_cons.mpr ⟨⟨_, W.hv, W.dv.mut⟩, fun _ h => nomatch h⟩⟩
theorem InvP.congr {F F' : Int → Prop} {ks : List Int} {W W' : Int → Int → Prop} {N : Nat} (h : InvP b mn g F ks W N) (hF : F = F') (hW : W = W') : InvP b mn g F' ks W' N := by subst hF hW; exact h
theorem ints_run3 {ds : List Value} {ns : List Int} (h : IntsAre ds ns) {i : Nat} (hi : i + 3 ≤ ns.length) : ∃ x y z t1 t2 t3, (ds.drop i).take 3 = [.int x t1, .int y t2, .int z t3] := by
  have hl := IntsAre.length h
  obtain ⟨h0, t1, e1⟩ := ints_get h (List.getElem?_eq_getElem (show i < ds.length by lia))
  obtain ⟨h1, t2, e2⟩ := ints_get h (List.getElem?_eq_getElem (show i + 1 < ds.length by lia))
  obtain ⟨h2, t3, e3⟩ := ints_get h (List.getElem?_eq_getElem (show i + 2 < ds.length by lia))
  refine ⟨ns[i], ns[i + 1], ns[i + 2], t1, t2, t3, ?_⟩
  rw [List.drop_eq_getElem_cons (show i < ds.length by omega), List.drop_eq_getElem_cons (show i + 1 < ds.length by omega), List.drop_eq_getElem_cons (show i + 1 + 1 < ds.length by lia), e1, e2, e3]
  rfl
theorem SlP.nosets {x dS r wd lf : Addr} {oS oW : Obj} {kvs : List (Int × Value)} {ls : List Addr} {free : Rows} {ws : List (Int × Rows)} (P : SlP prog w led x b mn cur dS oS r wd oW lf kvs ls free ws) : ∀ a ∈ dS :: wd :: lf :: ls, ∃ o, (a, o) ∈ led ∧ o.cls ≠ .type "set" := by
  refine all3 ?_ ⟨_, P.hW, by rw [P.dc.cls]; simp⟩ ?_ fun a ha => ?_
  · obtain ⟨h1, h2, h3, h4, h5, t1, t2, t3, t4, t5, k1, k2, k3, j, e⟩ := P.so
    exact ⟨_, P.hS, by rw [e]; simp [dictOf]⟩
  · obtain ⟨i, k, R⟩ := P.fr
    exact ⟨_, R.hl, by simp [PySem.W.listOf]⟩
  · obtain ⟨i, k, h⟩ := P.ws.lists a ha
    exact ⟨_, h, by simp [PySem.W.listOf]⟩
structure TurnP (prog : Program) (w : World) (led : Led) (wD vD dg x : Addr) (ds : List Value) (own : List Addr) (b mn g cur : Int) (fs : List Int) (ss : List (Int × List Int)) (free : Rows) (ws : List (Int × Rows)) (N : Nat) : Prop where
  W : WlV prog w led wD vD b mn g cur fs ss
  P : SlV prog w led x b mn cur own free ws
  S : SameP b mn g fs ss free ws
  I : InvP b mn g (· ∈ fs) (ss.map (·.1)) (MemS ss) N
  hd : (dg, lstO ds 0) ∈ led
  ap : ∀ a ∈ own, a ≠ wD ∧ a ≠ vD ∧ a ≠ dg
theorem TurnP.front {wD vD dg x I : Addr} {o : Obj} {ds : List Value} {own : List Addr} {free : Rows} {ws : List (Int × Rows)} {N : Nat} {led' : Led} (T : TurnP prog w led wD vD dg x ds own b mn g cur fs ss free ws N) (C : Cx w c A n m led s) (hI : (I, o) ∈ led) (ho : o.cls = .type "range_iterator") (kp : Kp [I] led led')
    (h1 : I ∉ own) : TurnP prog w led' wD vD dg x ds own b mn g cur fs ss free ws N := by
  obtain ⟨⟨oD, kvsD, fA, fO, vO, vkvs, W⟩, ⟨dS, oS, r, wd, oW, lf, kvs, ls, P, rfl⟩, S, I', hd, ap⟩ := T
  have hwD : wD ≠ I := C.diff W.hD hI (by rw [W.dc.cls, ho]; simp)
  have hvD : vD ≠ I := C.diff W.hv hI (by rw [W.dv.cls, ho]; simp)
  have hx : x ≠ I := C.diff P.hx hI (by rw [ho]; simp [instObj])
  have hg : dg ≠ I := C.diff hd hI (by rw [ho]; simp [PySem.W.listOf])
  refine ⟨⟨_, _, _, _, _, _, W.kp C kp (fun a ha => ?_) (by rw [List.mem_singleton]; exact hwD) (by rw [List.mem_singleton]; exact hvD)⟩, ⟨_, _, _, _, _, _, _, _, P.kp C kp (fun a ha => ?_) (by rw [List.mem_singleton]; exact hx) (fun a ha => by rw [List.mem_singleton]; exact fun q => h1 (q ▸ ha)), rfl⟩, S, I', kp _ hd (by rw [List.mem_singleton]; exact hg), ap⟩
  · rw [List.mem_singleton.mp ha]
    exact ⟨o, hI, by rw [ho]; simp⟩
  · rw [List.mem_singleton.mp ha]
    exact ⟨o, hI, by rw [ho]; simp, by rw [ho]; simp, fun hs tk l k q => by rw [q] at ho; exact absurd ho (by simp [dictOf])⟩
theorem TurnP.mono {wD vD dg x : Addr} {ds : List Value} {own : List Addr} {free : Rows} {ws : List (Int × Rows)} {N : Nat} {led' : Led} (T : TurnP prog w led wD vD dg x ds own b mn g cur fs ss free ws N) (h : ∀ p ∈ led, p ∈ led') : TurnP prog w led' wD vD dg x ds own b mn g cur fs ss free ws N := by
  obtain ⟨W, ⟨dS, oS, r, wd, oW, lf, kvs, ls, P, rfl⟩, S, I, hd, ap⟩ := T
  exact ⟨W.mono h, ⟨_, _, _, _, _, _, _, _, P.mono h, rfl⟩, S, I, h _ hd, ap⟩
theorem Cx.turnUp {p : Addr × Obj} {wD vD dg x : Addr} {ds : List Value} {own : List Addr} {free : Rows} {ws : List (Int × Rows)} {N : Nat} (_C : Cx w c A n m (p :: led) s) (T : TurnP prog w led wD vD dg x ds own b mn g cur fs ss free ws N) : TurnP prog w (p :: led) wD vD dg x ds own b mn g cur fs ss free ws N :=
  T.mono fun _ h => .tail _ h
theorem TurnP.step {wD vD vD' dg x : Addr} {ds : List Value} {free free1 : Rows} {ws ws1 : List (Int × Rows)} {N : Nat} {led1 led2 : Led} {s1 s2 : Shared} {m1 m2 : Loc} {dS : Addr} {oS : Obj} {r wd lf : Addr} {oW : Obj} {kvs : List (Int × Value)} {ls own1 : List Addr} {way y z cur1 cur2 : Int} {fs2 : List Int} {ss2 : List (Int × List Int)} {v1 v2 : Value}
    (C : Cx w c A n m led s) (P : SlP prog w led x b mn cur dS oS r wd oW lf kvs ls free ws) (S : SameP b mn g fs ss free ws) (I : InvP b mn g (· ∈ fs) (ss.map (·.1)) (MemS ss) N) (hd : (dg, lstO ds 0) ∈ led) (ap : ∀ a ∈ dS :: wd :: lf :: ls, a ≠ wD ∧ a ≠ vD ∧ a ≠ dg)
    (h1 : StepP b mn g cur (Mem free) (ws.map (·.1)) (MemW ws) way y z v1 cur1 (Mem free1) (ws1.map (·.1)) (MemW ws1)) (k1 : Kp (dS :: wd :: lf :: ls) led led1) (P1 : SlV prog w led1 x b mn cur1 own1 free1 ws1) (o1 : ∀ a ∈ own1, a ∈ dS :: wd :: lf :: ls ∨ ∀ p ∈ led, p.1 ≠ a) (C1 : Cx w c A n m1 led1 s1)
    (W1 : WlP prog w led1 wD oD kvsD fA fO vD vO vkvs b mn g cur fs ss) (hw : wD ∈ led.map (·.1)) (hv : vD ∈ led.map (·.1))
    (h2 : StepP b mn g cur (· ∈ fs) (ss.map (·.1)) (MemS ss) way y z v2 cur2 (· ∈ fs2) (ss2.map (·.1)) (MemS ss2)) (k2 : Kp [wD, vD] led1 led2) (W2 : WlV prog w led2 wD vD' b mn (if way = 5 then g + 1 + z.fmod 2 else g) cur2 fs2 ss2) (o2 : vD' = vD ∨ ∀ p ∈ led1, p.1 ≠ vD') (C2 : Cx w c A n m2 led2 s2) :
    SameV v1 v2 ∧ TurnP prog w led2 wD vD' dg x ds own1 b mn (if way = 5 then g + 1 + z.fmod 2 else g) cur2 fs2 ss2 free1 ws1 (N + 1) := by
  have eF : Mem free = (· ∈ fs) := funext fun x => propext (S.F x)
  have eW : MemW ws = MemS ss := funext fun k => funext fun x => propext (S.W k x)
  rw [eF, eW, S.ks] at h1
  obtain ⟨sv, ec, sF, sk, sW⟩ := step_same h1 h2
  subst ec
  have fresh : ∀ {a d : Addr}, a ∈ own1 → d ∈ led.map (·.1) → (∀ a ∈ dS :: wd :: lf :: ls, a ≠ d) → a ≠ d := fun {a d} ha hdm hne => by
    rcases o1 a ha with q | q
    · exact hne _ q
    · obtain ⟨p, hp, e⟩ := List.mem_map.mp hdm
      exact fun z => q p hp (e.trans z.symm)
  have hdm : dg ∈ led.map (·.1) := List.mem_map.mpr ⟨_, hd, rfl⟩
  have hdo : dg ∉ dS :: wd :: lf :: ls := fun q => (ap _ q).2.2 rfl
  have hd1 := k1 _ hd hdo
  have hdw : dg ≠ wD := C1.diff hd1 W1.hD (by rw [W1.dc.cls]; simp [PySem.W.listOf])
  have hdv : dg ≠ vD := C1.diff hd1 W1.hv (by rw [W1.dv.cls]; simp [PySem.W.listOf])
  obtain ⟨dS', oS', r', wd', oW', lf', kvs', ls', P1, rfl⟩ := P1
  have hxw : x ≠ wD := C1.diff P1.hx W1.hD (by rw [W1.dc.cls]; simp [instObj])
  have hxv : x ≠ vD := C1.diff P1.hx W1.hv (by rw [W1.dv.cls]; simp [instObj])
  have aw : ∀ a ∈ dS' :: wd' :: lf' :: ls', a ≠ wD := fun a ha => fresh ha hw fun a ha => (ap a ha).1
  have av : ∀ a ∈ dS' :: wd' :: lf' :: ls', a ≠ vD := fun a ha => fresh ha hv fun a ha => (ap a ha).2.1
  have ad : ∀ a ∈ dS' :: wd' :: lf' :: ls', a ≠ dg := fun a ha => fresh ha hdm fun a ha => (ap a ha).2.2
  have P2 := P1.kp C1 k2 W1.muts (by simp [hxw, hxv]) (fun a ha => by simp only [List.mem_cons, List.not_mem_nil, or_false, not_or]; exact ⟨aw a ha, av a ha⟩)
  refine ⟨sv, W2, ⟨_, _, _, _, _, _, _, _, P2, rfl⟩, ⟨sF, sk, sW⟩, step_inv h2 I, k2 _ hd1 (by simp [hdw, hdv]), fun a ha => ⟨aw a ha, ?_, ad a ha⟩⟩
  rcases o2 with rfl | q
  · exact av a ha
  · obtain ⟨oo, ho, _⟩ := P1.muts a ha
    exact fun z => q _ ho z
theorem Cx.cut {p : Addr × Obj} {a : Led} (C : Cx w c A n m (p :: (a ++ led)) s) : Cx w c A n m (p :: led) s :=
  C.step C.F (fun q hq => C.N q (by
    rcases List.mem_cons.mp hq with rfl | hq
    · exact .head _
    · exact .tail _ (List.mem_append_right _ hq))) (C.nd.sublist ((List.Sublist.cons_cons _ (List.sublist_append_right _ _)).map _))
theorem stored_le {K : Type} [DecidableEq K] {kvs : List (K × Value)} {k : K} {v : Value} : (stored kvs k v).length ≤ kvs.length + 1 := by
  unfold stored
  split
  · rw [List.length_map]; lia
  · rw [List.length_append]; simp
theorem ints_take {vs : List Value} {ns : List Int} (h : IntsAre vs ns) : ∀ k : Nat, IntsAre (vs.take k) (ns.take k) := by
  induction h with
  | nil => intro k; simp; exact .nil
  | cons i t _ ih =>
    intro k
    cases k with
    | zero => exact .nil
    | succ k => exact .cons i t (ih k)
theorem inv_zero {b mn : Int} {fs : List Int} (h : ∀ x, x ∈ fs ↔ b ≤ x ∧ x < b + mn) : InvP b mn 5 (· ∈ fs) (([] : List (Int × List Int)).map (·.1)) (MemS []) 0 :=
  ⟨fun x hx => (h x).mp hx, fun k x hx => (by obtain ⟨_, q, _⟩ := hx; cases q), .nil, fun k hk => (by cases hk), Nat.le_refl _⟩
theorem same_zero {b mn g : Int} {fs : List Int} {free : Rows} (h : ∀ x, x ∈ fs ↔ b ≤ x ∧ x < b + mn) (hF : ∀ x, Mem free x ↔ b ≤ x ∧ x < b + mn) : SameP b mn g fs [] free [] :=
  ⟨fun x => (hF x).trans (h x).symm, rfl, fun k x => ⟨fun q => (by obtain ⟨_, q, _⟩ := q; cases q), fun q => (by obtain ⟨_, q, _⟩ := q; cases q)⟩⟩
end
end Mine
end

section
open PySem PySem.W PySem.Calls PyProof.Rows PyProof.Rows.LCg
namespace Mine
section
variable {prog : Program} {w : World} {c : Cfg} {A : Around} {n : Nat} {m : Loc} {led : Led} {s : Shared} {E : Value → Shared → Prop}
inductive J26 (prog : Program) (w : World) (c : Cfg) (wD x dg : Addr) (ds : List Value) (b mn : Int) (i : Nat) (m' : Loc) (led' : Led) (c' : Cfg) : Prop
  | mk (hc : c' = c) (m1 : m' (Str.ofString "world") = some (.ref wD)) (m2 : m' (Str.ofString "slab") = some (.ref x)) (m3 : m' (Str.ofString "digits") = some (.ref dg)) (vD : Addr) (own : List Addr) (g cur : Int) (fs : List Int) (ss : List (Int × List Int)) (free : Rows) (ws : List (Int × Rows)) (T : TurnP prog w led' wD vD dg x ds own b mn g cur fs ss free ws i) : J26 prog w c wD x dg ds b mn i m' led' c'
theorem law_core {Q : Flow → Shared → Prop} {sc : Addr} {fa : Addr} {cd : Value} {vs : List Value} {ns : List Int} (C : Cx w c A (n + 9) m [] s) (hb0 : c.base = c.h₀) (hou : c.outer = []) (hm : m (Str.ofString "script") = some (.ref sc))
    (hL : c.h₀.IsList sc vs.toArray) (hI : IntsAre vs ns) (hn : ns.length ≤ 63) (kQ : ∀ m' led' s', Cx w c A (n + 9) m' led' s' → Q (.ret (.bool true)) s') :
    wpAny (model prog w) A (execs fd_18.2.1 (envOf (Str.ofString "law") fd_18.2.2 c.L fa cd)) Q E s := by
  have hvl := IntsAre.length hI
  walk_at "xc"
  refine wpAny_Assign_Name ?_
  refine Subscript_ ?_
  refine nm_l C (by walk_at "lk") ?_ rfl rfl (by decide)
  refine x_slice ?_
  refine evalPart_none_step ?_
  refine evalPart_some_step ?_
  with_reducible refine k_int C fun t s C => ?_
  refine evalPart_none_step ?_
  refine slc C fun D0 s C hS => ?_
  refine it_upto (k := 0) (i := 63) C (let ⟨o, e, r⟩ := hL; ⟨o, C.F.keep _ _ e, r⟩) hS (by lia) (fun D s C => ?_) (by with_unfolding_all rfl)
  rw [List.take_of_length_le (show vs.length ≤ 63 by lia)] at C
  refine st_l C (fun s C => ?_) rfl rfl
  walk_at "xc"
  refine wpAny_Assign_Name ?_
  refine ifexp_int C (i := ns.headD 0) (fun Qj kj => ?_) fun tf s C => ?_
  · refine wpAny_isTrue_Compare1 ?_
    refine nm_l C (by walk_at "lk") ?_ rfl rfl (by decide)
    refine List_ ?_
    refine spliced_none ?_
    refine mk_list C (Nat.le_of_ble_eq_true rfl) fun D2 s C => ?_
    refine ne_ints C (.tail _ (.head _)) hI (.head _) .nil ?_
    refine wpAny_truthy_bool ?_
    replace C := C.drop
    cases hI with
    | nil =>
      refine ite_f (by rw [decide_eq_true rfl]; rfl) ?_
      with_reducible refine k_int C fun t s C => ?_
      exact kj _ _ C
    | cons i t h =>
      refine ite_t (by rw [decide_eq_false (by simp)]; rfl) ?_
      refine Subscript_ ?_
      refine nm_l C (by walk_at "lk") ?_ rfl rfl (by decide)
      with_reducible refine k_int C fun t s C => ?_
      refine it_list C (.head _) (by decide) (by decide) rfl ?_ (by with_unfolding_all rfl)
      exact kj _ _ C
  generalize ns.headD 0 = first at C
  refine st_l C (fun s C => ?_) rfl rfl
  have hf0 : 0 ≤ first.fmod 50 := Int.fmod_nonneg_of_pos _ (by decide)
  have hf1 : first.fmod 50 < 50 := Int.fmod_lt_of_pos _ (by decide)
  have hg0 : 0 ≤ (first.fdiv 50).fmod 33 := Int.fmod_nonneg_of_pos _ (by decide)
  have hg1 : (first.fdiv 50).fmod 33 < 33 := Int.fmod_lt_of_pos _ (by decide)
  walk_at "xc"
  refine wpAny_Assign_Name ?_
  refine dict_disp C rfl rfl rfl (List.cons_ne_nil _ _) (Nat.le_of_ble_eq_true rfl) fun wD oD s dc0 C => ?_
  refine pairTrees_cons_walk ?_
  with_reducible refine k_str C fun t s C => ?_
  refine wpAny_BinOp ?_
  with_reducible refine k_int C fun t s C => ?_
  refine wpAny_BinOp ?_
  refine nm_l C (by walk_at "lk") ?_ rfl rfl (by decide)
  with_reducible refine k_int C fun t s C => ?_
  with_reducible refine a_mod C (by decide) fun t s C => ?_
  with_reducible refine a_add C fun t s C => ?_
  refine pairTrees_cons_walk ?_
  with_reducible refine k_str C fun t s C => ?_
  refine opv fun _ _ => ?_
  refine wpAny_BinOp ?_
  with_reducible refine k_int C fun t s C => ?_
  refine wpAny_BinOp ?_
  refine wpAny_BinOp ?_
  refine nm_l C (by walk_at "lk") ?_ rfl rfl (by decide)
  with_reducible refine k_int C fun t s C => ?_
  refine a_half C (by decide) (PyProof.noPylong_of_log2 (by decide +kernel)) fun t s C => ?_
  with_reducible refine k_int C fun t s C => ?_
  with_reducible refine a_mod C (by decide) fun t s C => ?_
  with_reducible refine a_add C fun t s C => ?_
  walk_at "op"
  refine pairTrees_cons_walk ?_
  with_reducible refine k_str C fun t s C => ?_
  refine mk_dict C fun vD vO s dv C => ?_
  have hwv := C.ne _ (.head _)
  refine pairTrees_cons_walk ?_
  with_reducible refine k_str C fun t s C => ?_
  with_reducible refine k_int C fun t s C => ?_
  refine pairTrees_nil_walk ?_
  replace C := C.swap
  refine dict_made C dc0 rfl (of_decide_eq_true (by rfl)) fun oD1 s dc1 C => ?_
  obtain ⟨kv1, dc1, hvb, hvm, hvw, hvg, hln⟩ : ∃ kvs, DcS prog w wD oD1 kvs ∧ (∃ t, valueAt kvs "begin" = some (.int (3 + first.fmod 50) t)) ∧ (∃ t, valueAt kvs "many" = some (.int (8 + (first.fdiv 50).fmod 33) t)) ∧ valueAt kvs "waits" = some (.ref vD) ∧ (∃ t, valueAt kvs "txg" = some (.int 5 t)) ∧ kvs.length = 4 := ⟨_, dc1, ⟨_, rfl⟩, ⟨_, rfl⟩, rfl, ⟨_, rfl⟩, rfl⟩
  obtain ⟨b, hbe⟩ : ∃ b, 3 + first.fmod 50 = b := ⟨_, rfl⟩
  obtain ⟨mn, hme⟩ : ∃ mn, 8 + (first.fdiv 50).fmod 33 = mn := ⟨_, rfl⟩
  rw [hbe] at hvb
  rw [hme] at hvm
  have hb3 : 3 ≤ b ∧ b ≤ 52 := by omega
  have hm8 : 8 ≤ mn ∧ mn ≤ 40 := by omega
  clear hbe hme hf0 hf1 hg0 hg1
  refine st_l C (fun s C => ?_) rfl rfl
  obtain ⟨tb, vb⟩ := hvb
  obtain ⟨tm, vm⟩ := hvm
  walk_at "xc"
  refine Assign_Tuple ?_ (by with_unfolding_all rfl) (by with_unfolding_all rfl)
  refine opv fun _ _ => ?_
  refine Tuple_ ?_
  refine spliced_more ?_
  refine Call_ ?_
  refine nm_g C (by k_is) ?_ rfl rfl (by decide)
  refine cw_more C (by k_is) ?_
  refine spliced_more ?_
  refine nm_l C (by walk_at "lk") ?_ rfl rfl (by decide)
  refine spliced_none ?_
  refine ⟨C.Xs, ?_⟩
  refine lw_all0 C (.head _) dc1 vb vm (by lia) (by lia) (by lia) (by lia) fun fA fO fs s sf hmf C => ?_
  refine spliced_more ?_
  refine Subscript_ ?_
  refine nm_l C (by walk_at "lk") ?_ rfl rfl (by decide)
  with_reducible refine k_str C fun t s C => ?_
  refine d_itemS C (.tail _ (.head _)) dc1 vb (fun s C => ?_) (by with_unfolding_all rfl)
  refine spliced_none ?_
  refine mk_tup C (Nat.le_of_ble_eq_true rfl) fun T s C => ?_
  walk_at "op"
  refine as_tup C (.head _) rfl rfl fun s C => ?_
  refine assignInOrder_cons ?_
  refine as_sub ?_
  refine nm_l C (by walk_at "lk") ?_ rfl rfl (by decide)
  with_reducible refine k_str C fun t s C => ?_
  replace C := C.drop
  have Cf := C
  obtain ⟨led2, C, kp2, s2⟩ := C.front (.tail _ (.head _))
  have hfA : (fA, fO) ∈ led2 := kp2 _ (.head _) (by rw [List.mem_singleton]; exact (Cf.ne _ (.head _)).symm)
  have hvD : (vD, vO) ∈ led2 := kp2 _ (.tail _ (.tail _ (.head _))) (by rw [List.mem_singleton]; exact fun q => hwv q.symm)
  have hscr : (D, lstO vs 0) ∈ led2 := kp2 _ (.tail _ (.tail _ (.tail _ (.head _)))) (by rw [List.mem_singleton]; exact Cf.diff (.tail _ (.tail _ (.tail _ (.head _)))) (.tail _ (.head _)) (by rw [dc1.cls]; simp [PySem.W.listOf]))
  refine d_setS C dc1 (by lia) fun oD2 s dc2 C => ?_
  refine assignInOrder_cons ?_
  refine as_sub ?_
  refine nm_l C (by walk_at "lk") ?_ rfl rfl (by decide)
  with_reducible refine k_str C fun t s C => ?_
  refine d_setS C dc2 (by have := stored_le (kvs := kv1) (k := Str.ofString "free") (v := .ref fA); lia) fun oD3 s dc3 C => ?_
  refine assignInOrder_nil ?_
  have W : WlP prog w ((wD, oD3) :: led2) wD oD3 (stored (stored kv1 "free" (.ref fA)) "cursor" (.int b tb)) fA fO vD vO [] b mn 5 b fs [] := by
    refine ⟨.head _, dc3, ?_, ⟨tb, ?_⟩, ⟨tm, ?_⟩, ?_, ⟨tb, ?_⟩, ?_, ?_, .tail _ hfA, sf, .tail _ hvD, dv, trivial, fun q => hwv q⟩
    · have h1 := stored_le (kvs := kv1) (k := Str.ofString "free") (v := .ref fA)
      have h2 := stored_le (kvs := stored kv1 (Str.ofString "free") (.ref fA)) (k := Str.ofString "cursor") (v := .int b tb)
      lia
    · rw [valueAt_stored, if_neg (by decide), valueAt_stored, if_neg (by decide)]; exact vb
    · rw [valueAt_stored, if_neg (by decide), valueAt_stored, if_neg (by decide)]; exact vm
    · rw [valueAt_stored, if_neg (by decide), valueAt_stored, if_neg (by decide)]; exact hvg
    · rw [valueAt_stored, if_pos rfl]
    · rw [valueAt_stored, if_neg (by decide), valueAt_stored, if_pos rfl]
    · rw [valueAt_stored, if_neg (by decide), valueAt_stored, if_neg (by decide)]; exact hvw
  have hscr : (D, lstO vs 0) ∈ (wD, oD3) :: led2 := .tail _ hscr
  clear Cf hfA hvD kp2 s2 dc2 dc1 dc0 hvg hvw hln vb vm hwv
  obtain ⟨kvsD, hkv⟩ : ∃ kv, stored (stored kv1 (Str.ofString "free") (.ref fA)) (Str.ofString "cursor") (.int b tb) = kv := ⟨_, rfl⟩
  rw [hkv] at W dc3
  generalize (wD, oD3) :: led2 = led3 at C W hscr
  clear hkv dc3
  obtain ⟨tb, vb⟩ := W.vb
  obtain ⟨tm, vm⟩ := W.vm
  walk_at "xc"
  refine wpAny_Assign_Name ?_
  refine opv fun _ _ => ?_
  refine Call_ ?_
  refine nm_g C (by k_is) ?_ rfl rfl (by decide)
  refine cw_more C (by k_is) ?_
  refine spliced_more ?_
  refine Subscript_ ?_
  refine nm_l C (by walk_at "lk") ?_ rfl rfl (by decide)
  with_reducible refine k_str C fun t s C => ?_
  refine d_itemS C W.hD W.dc vb (fun s C => ?_) (by with_unfolding_all rfl)
  refine spliced_more ?_
  refine Subscript_ ?_
  refine nm_l C (by walk_at "lk") ?_ rfl rfl (by decide)
  with_reducible refine k_str C fun t s C => ?_
  refine d_itemS C W.hD W.dc vm (fun s C => ?_) (by with_unfolding_all rfl)
  refine spliced_none ?_
  refine ⟨C.Xs, ?_⟩
  refine sl_new C (by lia) (by lia) (by lia) fun x own free led4 s hs4 hx4 hown4 SV hF C => ?_
  walk_at "op"
  refine st_l C (fun s C => ?_) rfl rfl
  have W4 := W.mono hs4
  have hscr4 := hs4 _ hscr
  have hwd : ∀ a ∈ own, a ≠ wD ∧ a ≠ vD := fun a ha => ⟨fun q => hown4 a ha _ W.hD q.symm, fun q => hown4 a ha _ W.hv q.symm⟩
  walk_at "xc"
  refine wpAny_Assign_Name ?_
  refine opv fun _ _ => ?_
  refine wpAny_BinOp ?_
  refine opv fun _ _ => ?_
  refine Call_ ?_
  refine nm_b C (by k_is) (by boot_fast) ?_ (by decide) rfl rfl (by decide)
  refine PyProof.Rows.callWith_type1 ?_
  refine spliced_more ?_
  refine Subscript_ ?_
  refine nm_l C (by walk_at "lk") ?_ rfl rfl (by decide)
  refine x_slice ?_
  refine evalPart_none_step ?_
  refine evalPart_some_step ?_
  with_reducible refine k_int C fun t s C => ?_
  refine evalPart_none_step ?_
  refine slc C fun D4 s C hS4 => ?_
  refine it_upto (k := 0) (i := 42) C (C.lst hscr4) hS4 (by lia) (fun D5 s C => ?_) (by with_unfolding_all rfl)
  refine spliced_none ?_
  refine b_copy C (.head _) (by rw [List.length_take]; lia) fun D6 j6 s C => ?_
  walk_at "op"
  refine List_ ?_
  refine spliced_more ?_
  with_reducible refine k_int C fun t s C => ?_
  refine spliced_more ?_
  with_reducible refine k_int C fun t s C => ?_
  refine spliced_more ?_
  with_reducible refine k_int C fun t s C => ?_
  refine spliced_none ?_
  refine mk_list C (Nat.le_of_ble_eq_true rfl) fun D7 s C => ?_
  refine a_list C (.tail _ (.head _)) (.head _) (by rw [List.length_take]; simp; lia) fun dg s C => ?_
  walk_at "op"
  have hdgf := C.ne
  obtain ⟨ds, nds, hds, hdl, C⟩ : ∃ ds nds, IntsAre ds nds ∧ nds.length ≤ 45 ∧ Cx w c A _ _ ((dg, lstO ds 0) :: led4) s := by
    refine ⟨_, _, Mine.IntsAre.append (ints_take hI 42) (.cons 0 _ (.cons 3 _ (.cons 4 _ .nil))), ?_, Cx.cut (a := [_, _, _]) C⟩
    rw [List.length_append, List.length_take]; simp; lia
  refine st_l C (fun s C => ?_) rfl rfl
  have hdl2 := IntsAre.length hds
  have T0 : TurnP prog w ((dg, lstO ds 0) :: led4) wD vD dg x ds own b mn 5 b fs [] free [] 0 := by
    obtain ⟨dS, oS, r, wd, oW, lf, kvs, ls, P, rfl⟩ := SV
    refine ⟨⟨_, _, _, _, _, _, W4.mono fun p hp => .tail _ hp⟩, ⟨_, _, _, _, _, _, _, _, P.mono fun p hp => .tail _ hp, rfl⟩, same_zero hmf hF, inv_zero hmf, .head _, fun a ha => ⟨(hwd a ha).1, (hwd a ha).2, fun q => ?_⟩⟩
    obtain ⟨oo, ho, _⟩ := P.muts a ha
    exact hdgf _ (.tail _ (.tail _ (.tail _ ho))) q
  clear hdgf hwd W4 SV hscr4 hs4 hx4 hown4 W vb vm hI hvl hL hm hmf hF hscr
  generalize (dg, lstO ds 0) :: led4 = led5 at C T0
  walk_at "xc"
  refine wpAny_For ?_
  refine opv fun _ _ => ?_
  refine Call_ ?_
  refine nm_b C (by k_is) (by boot_fast) ?_ (by decide) rfl rfl (by decide)
  refine PyProof.Rows.callWith_type1 ?_
  refine spliced_more ?_
  refine wpAny_BinOp ?_
  refine Call_ ?_
  refine nm_b C (by k_is) (by boot_fast) ?_ (by decide) rfl rfl (by decide)
  refine PyProof.Rows.callWith_builtin1 ?_
  refine spliced_more ?_
  refine nm_l C (by walk_at "lk") ?_ rfl rfl (by decide)
  refine spliced_none ?_
  refine b_len C T0.hd (by rw [List.size_toArray]; lia) fun t s C => ?_
  with_reducible refine k_int C fun t s C => ?_
  refine a_half C (by decide) (PyProof.noPylong_of_log2 (by decide +kernel)) fun t s C => ?_
  refine spliced_none ?_
  rw [show ((ds.toArray.size : Nat) : Int).fdiv 3 = ((ds.length / 3 : Nat) : Int) by rw [List.size_toArray, Int.fdiv_eq_ediv_of_nonneg _ (by decide)]; lia]
  refine b_range1 C fun R u v s C => ?_
  walk_at "op"
  refine iter_range C (.head _) (by lia) fun It oI s hIt C => ?_
  have TR := C.drop.turnUp T0
  refine for_range C hIt (J26 prog w c wD x dg ds b mn) ⟨rfl, by walk_at "lk", by walk_at "lk", by walk_at "lk", vD, own, 5, b, fs, [], free, [], TR⟩ ?_ ?_
  · rintro i m' led' c' s E' o t hi ⟨rfl, m1, m2, m3, vD, own, g, cur, fs, ss, free, ws, T⟩ ho C T1 kN
    obtain ⟨⟨oD, kvsD, fA, fO, vO, vkvs, W⟩, ⟨dS, oS, r, wd, oW, lf, kvs, ls, P, rfl⟩, S, I, hd, ap⟩ := C.turnUp T
    have hIt1 : It ∉ dS :: wd :: lf :: ls := fun q => by
      obtain ⟨_, ⟨dS', oS', r', wd', oW', lf', kvs', ls', P', e⟩, _⟩ := T
      obtain ⟨oo, ho, _⟩ := P'.muts It (e ▸ q)
      exact C.ne _ ho rfl
    refine wpAny_assign_Name (st_l C (fun s C => ?_) rfl rfl)
    walk_at "xc"
    refine Assign_Tuple ?_ (by with_unfolding_all rfl) (by with_unfolding_all rfl)
    refine Subscript_ ?_
    refine nm_l C (by walk_at "lk") ?_ rfl rfl (by decide)
    refine x_slice ?_
    refine evalPart_some_step ?_
    refine wpAny_BinOp ?_
    with_reducible refine k_int C fun t s C => ?_
    refine nm_l C (by walk_at "lk") ?_ rfl rfl (by decide)
    with_reducible refine a_mul C (by mul_fits) fun t s C => ?_
    refine evalPart_some_step ?_
    refine wpAny_BinOp ?_
    refine wpAny_BinOp ?_
    with_reducible refine k_int C fun t s C => ?_
    refine nm_l C (by walk_at "lk") ?_ rfl rfl (by decide)
    with_reducible refine a_mul C (by mul_fits) fun t s C => ?_
    with_reducible refine k_int C fun t s C => ?_
    with_reducible refine a_add C fun t s C => ?_
    refine evalPart_none_step ?_
    rw [show (3 : Int) * (i : Int) + 3 = ((3 * i + 3 : Nat) : Int) by lia, show (3 : Int) * (i : Int) = ((3 * i : Nat) : Int) by lia]
    refine slc C fun D8 s C hS8 => ?_
    refine it_run C hd hS8 (by lia) (by lia) (by lia) (fun D9 s C => ?_) (by with_unfolding_all rfl)
    obtain ⟨a1, a2, a3, q1, q2, q3, hrun⟩ := ints_run3 hds (i := 3 * i) (by lia)
    rw [show 3 * i + 3 - 3 * i = 3 by lia, hrun] at C
    refine as_lst C (.head _) rfl rfl fun s C => ?_
    replace C := C.drop
    refine assignInOrder_cons ?_
    refine wpAny_assign_Name (st_l C (fun s C => ?_) rfl rfl)
    refine assignInOrder_cons ?_
    refine wpAny_assign_Name (st_l C (fun s C => ?_) rfl rfl)
    refine assignInOrder_cons ?_
    refine wpAny_assign_Name (st_l C (fun s C => ?_) rfl rfl)
    refine assignInOrder_nil ?_
    clear hrun hS8
    walk_at "xc"
    refine wpAny_Assign_Name ?_
    refine wpAny_BinOp ?_
    refine nm_l C (by walk_at "lk") ?_ rfl rfl (by decide)
    with_reducible refine k_int C fun t s C => ?_
    with_reducible refine a_mod C (by decide) fun t s C => ?_
    refine st_l C (fun s C => ?_) rfl rfl
    obtain ⟨way, hwe⟩ : ∃ way, a1.fmod 7 = way := ⟨_, rfl⟩
    have hway : 0 ≤ way ∧ way ≤ 6 := by
      have h1 : 0 ≤ a1.fmod 7 := Int.fmod_nonneg_of_pos _ (by decide)
      have h2 : a1.fmod 7 < 7 := Int.fmod_lt_of_pos _ (by decide)
      lia
    rw [hwe] at C
    have eF : Mem free = (· ∈ fs) := funext fun x => propext (S.F x)
    have eW : MemW ws = MemS ss := funext fun k => funext fun x => propext (S.W k x)
    have I1 : InvP b mn g (Mem free) (ws.map (·.1)) (MemW ws) i := by rw [eF, eW, S.ks]; exact I
    have C0 := C
    walk_at "xc"
    refine wpAny_Assign_Name ?_
    refine opv fun _ _ => ?_
    refine Call_ ?_
    refine nm_g C (by k_is) ?_ rfl rfl (by decide)
    refine cw_more C (by k_is) ?_
    refine spliced_more ?_
    refine nm_l C (by walk_at "lk") ?_ rfl rfl (by decide)
    refine spliced_more ?_
    refine nm_l C (by walk_at "lk") ?_ rfl rfl (by decide)
    refine spliced_more ?_
    refine nm_l C (by walk_at "lk") ?_ rfl rfl (by decide)
    refine spliced_more ?_
    refine nm_l C (by walk_at "lk") ?_ rfl rfl (by decide)
    refine spliced_more ?_
    refine nm_l C (by walk_at "lk") ?_ rfl rfl (by decide)
    refine spliced_none ?_
    refine ⟨C.Xs, ?_⟩
    refine lw_told C hb0 hou P W (by lia) (by lia) (by lia) (by lia) hway.1 hway.2 (N := i) (by lia) I1 fun v1 cur1 free1 ws1 led1 s st1 SO1 C => ?_
    walk_at "op"
    refine st_l C (fun s C => ?_) rfl rfl
    obtain ⟨k1, own1, P1, o1⟩ := SO1
    have W1 := W.kp C0 k1 P.nosets (fun q => (ap _ q).1 rfl) (fun q => (ap _ q).2.1 rfl)
    have C1 := C
    walk_at "xc"
    refine wpAny_If ?_
    refine isTrue_or ?_
    refine opv fun _ _ => ?_
    refine wpAny_isTrue_Compare1 ?_
    refine nm_l C (by walk_at "lk") ?_ rfl rfl (by decide)
    refine opv fun _ _ => ?_
    refine Call_ ?_
    refine nm_g C (by k_is) ?_ rfl rfl (by decide)
    refine cw_more C (by k_is) ?_
    refine spliced_more ?_
    refine nm_l C (by walk_at "lk") ?_ rfl rfl (by decide)
    refine spliced_more ?_
    refine nm_l C (by walk_at "lk") ?_ rfl rfl (by decide)
    refine spliced_more ?_
    refine nm_l C (by walk_at "lk") ?_ rfl rfl (by decide)
    refine spliced_more ?_
    refine nm_l C (by walk_at "lk") ?_ rfl rfl (by decide)
    refine spliced_none ?_
    refine ⟨C.Xs, ?_⟩
    refine lw_due (n := n + 3) C W1 (by omega) (by omega) (by omega) (by omega) hway.1 hway.2 (N := i) (by omega) I fun v2 cur2 fs2 ss2 led2 s st2 WO2 C => ?_
    walk_at "op"
    obtain ⟨k2, vD2, W2, o2⟩ := WO2
    obtain ⟨sv, T2⟩ := TurnP.step C0 P S I hd ap st1 k1 P1 o1 C1 W1 (List.mem_map.mpr ⟨_, W.hD, rfl⟩) (List.mem_map.mpr ⟨_, W.hv, rfl⟩) st2 k2 W2 o2 C
    refine ne_same sv ?_
    refine wpAny_truthy_bool ?_
    walk_at "op"
    refine ite_f rfl ?_
    refine isTrue_or ?_
    obtain ⟨⟨_, _, _, _, _, _, W3⟩, ⟨dS3, oS3, r3, wd3, oW3, lf3, kvs3, ls3, P3, e3⟩, S3, I3, _, _⟩ := id T2
    refine opv fun _ _ => ?_
    refine isTrue_not ?_
    refine opv fun _ _ => ?_
    refine isTrue_plain ?_
    refine opv fun _ _ => ?_
    refine Call_ ?_
    refine nm_g C (by k_is) ?_ rfl rfl (by decide)
    refine cw_more C (by k_is) ?_
    refine spliced_more ?_
    refine nm_l C (by walk_at "lk") ?_ rfl rfl (by decide)
    refine spliced_more ?_
    refine nm_l C (by walk_at "lk") ?_ rfl rfl (by decide)
    refine spliced_more ?_
    refine wpAny_BinOp ?_
    refine nm_l C (by walk_at "lk") ?_ rfl rfl (by decide)
    with_reducible refine k_int C fun t s C => ?_
    refine a_half C (by decide) (PyProof.noPylong_of_log2 (by decide +kernel)) fun t s C => ?_
    refine spliced_more ?_
    refine wpAny_BinOp ?_
    refine nm_l C (by walk_at "lk") ?_ rfl rfl (by decide)
    with_reducible refine k_int C fun t s C => ?_
    refine a_half C (by decide) (PyProof.noPylong_of_log2 (by decide +kernel)) fun t s C => ?_
    refine spliced_none ?_
    refine ⟨C.Xs, ?_⟩
    refine lw_same C P3 W3 (by omega) (by omega) (by omega) (by omega) (N := i + 1) (by lia) I3 S3 fun s C => ?_
    walk_at "op"
    refine wpAny_truthy_bool ?_
    walk_at "op"
    walk_at "op"
    refine ite_f rfl ?_
    refine isTrue_or_nil ?_
    refine ite_f rfl ?_
    walk_at "xn"
    walk_at "xn"
    have hIw : It ≠ wD := C0.diff (.head _) W.hD (by rw [ho, W.dc.cls]; simp)
    have hIv : It ≠ vD := C0.diff (.head _) W.hv (by rw [ho, W.dv.cls]; simp)
    have hI2 := k2 _ (k1 _ (.head _) hIt1) (by simp [hIw, hIv])
    obtain ⟨led3, C3, kp3, s3⟩ := C.front hI2
    have hIo : It ∉ own1 := fun q => (o1 It q).elim hIt1 fun z => z _ (.head _) rfl
    have T3 := T2.front C hI2 ho kp3 hIo
    exact kN _ _ led3 _ C3 ⟨rfl, by walk_at "lk", by walk_at "lk", by walk_at "lk", vD2, own1, _, _, _, _, _, _, T3⟩
  · rintro m' led' c' s E' ⟨rfl, m1, m2, m3, vD, own, g, cur, fs, ss, free, ws, T⟩ C
    obtain ⟨dS, oS, r, wd, oW, lf, kvs, ls, P, rfl⟩ := T.P
    walk_at "xn"
    walk_at "xc"
    refine wpAny_Return_some ?_
    refine Call_ ?_
    refine nm_g C (by k_is) ?_ rfl rfl (by decide)
    refine cw_more C (by k_is) ?_
    refine spliced_more ?_
    refine nm_l C (by walk_at "lk") ?_ rfl rfl (by decide)
    refine spliced_none ?_
    refine ⟨C.Xs, ?_⟩
    refine lw_none (n := n + 3) C hb0 hou P fun led6 s h6 C => ?_
    walk_at "ar"
    try walk_at "rt"
    exact kQ _ _ _ C
end
end Mine
end

section
open PySem PySem.W PySem.Calls PyProof.Rows PyProof.Rows.LCg
theorem PySem.Challenge.cw_np0194_01_holds : PySem.Challenge.rw_np0194_01.Holds := by
  refine Mine.hd ?_
  intro w s₀ s₁ mg mb G Y fa o pm cd doc dV kV ho hd hcd hD hmg hg args vals as hpre hlay hrd hwl hlo
  have KX := kIn_of Y
  refine Ground.open G ?_
  intro T B D TE TW
  try (refine guard_noD D (by decide +kernel) ?_; clear D)
  obtain ⟨bmA, bmO, M⟩ := bmod_of_top T
  have TA := at_of_top T
  try (obtain ⟨_, _, he, B0⟩ := based_of_top T rfl hmg ho hd; have he' : cd = _ := he; subst he'; clear he)
  clear hmg
  wrow_args hpre hlay hrd hwl hlo
  all_goals (
    first | refine callC_kw (enter_call ?_) | refine enter_call ?_ | refine callC_kw (enter_callW ?_) | refine enter_callW ?_ | w_how
    w_top on
    try refine codeAny_mono ?_ (fun _ _ g => GoodW.toG g)
    have K0 := below_caller (Top.heap T)
    w_call any ho hd hcd hD T F
    clear hd TA
    k_drop
    skip)
  rename_i cdA cdO ns hs hlay0 hLay hr1 hl2 as3 as2 a vs as1 hL ra w1 r0 hI hr hlen htrue h₁ N0
  have hlen : ns.length ≤ 63 := by omega
  have C : Mine.Cx w ⟨callerA, s₁.heap, s₁.heap, [], envOf (Str.ofString "law") Mine.fd_18.2.2 s₁.heap.objs.size fa (.ref cdA), s₁.heap.objs.size, Mine.QV, looseW Mine.QV Mine.LO, ExcName.means s₀.heap, mg, mb, s₁.gens, s₁.os⟩
      (callerA.deeper (envOf (Str.ofString "law") Mine.fd_18.2.2 s₁.heap.objs.size fa (.ref cdA))) (0 + 9) (fun x => List.lookup x [(Str.ofString "script", Value.ref a)].reverse) [] { heap := h₁, gens := s₁.gens, drawn := s₁.drawn, toks := s₁.toks + 1, os := s₁.os } :=
    ⟨K0, F, N0, .nil, KX, T, Around.frames_deeper K0.stack, rfl, rfl, rfl, by show callerA.depth + 1 + _ < _; decide, by show callerA.units + 3 + _ < _; decide, rfl, rfl⟩
  have key := fun Q E => Mine.law_core (prog := PySem.Challenge.rw_np0194_01.row.prog) (n := 0) (Q := Q) (E := E) (fa := fa) (cd := .ref cdA) C rfl rfl rfl hL hI hlen
  refine key _ _ fun m' led' s' C' => ?_
  refine goodW_bool C'.F (C'.hg.trans hg) (raisesW_false ?_) ?_ C'.ho
  · wrow_none_raised
  · wrow_post
end
