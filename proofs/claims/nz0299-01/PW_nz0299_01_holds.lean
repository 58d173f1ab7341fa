import PyProof.Rows.All
import Wide.All
import OpenK.AllK
import Wide.FinOn
import PySem.Challenge.RW_nz0299_01
open PySem PySem.W PySem.Calls PySem.Spec PyProof.Rows
set_option Elab.async false
set_option maxRecDepth 100000
set_option maxHeartbeats 2000000
set_option rowWalk.seconds 0
set_option linter.unusedVariables false
namespace Mine
noncomputable abbrev PG : Program := PySem.Challenge.rw_nz0299_01.row.prog
def dArgs : Stmt → Arguments | .FunctionDef _ a .. => a | _ => default
def dBody : Stmt → List Stmt | .FunctionDef _ _ b .. => b | .ClassDef _ _ _ b .. => b | _ => []
def dScope : Stmt → Scope | .FunctionDef (scope := s) .. => s | _ => default
def at_ (l : List Stmt) (i : Nat) : Stmt := (l[i]?).getD default
noncomputable def M : List Stmt := PG.main.body
def lifeK : Life := ⟨[], [], [], 0, [], [], false, #[], [], 0, false, false, false, 0, [2000, 10, 10], false, 0, true, [], [], 0, false⟩
noncomputable def ob43 (P : PySem.Params) : PySem.Obj :=
  { cls := PySem.Value.type "tuple", data := PySem.Data.seq #[] }
noncomputable def ob44 (P : PySem.Params) : PySem.Obj :=
  { cls := PySem.Value.none, data := PySem.Data.fields #[] }
noncomputable def ob45 (P : PySem.Params) : PySem.Obj :=
  { cls := PySem.Value.type "code", data := PySem.Data.fields #[PySem.Value.str (PySem.Str.ofString "<module>") 182, PySem.Value.str (PySem.Str.ofString "<module>") 183, PySem.Value.str (PySem.Str.ofString "/claim/cut.py") 184, PySem.Value.int 1 0, PySem.Value.int 0 0, PySem.Value.int 0 0, PySem.Value.int 0 0, PySem.Value.int 0 0, PySem.Value.ref 11, PySem.Value.bool Bool.false, PySem.Value.int 181 0, PySem.Value.ref 12, PySem.Value.none, PySem.Value.none, PySem.Value.none, PySem.Value.none, PySem.Value.int 185 0, PySem.Value.int 1 0, PySem.Value.str (PySem.Str.ofString "/claim/cut.py") 186] }
noncomputable def ob46 (P : PySem.Params) : PySem.Obj :=
  { cls := PySem.Value.type "frame", slots := #[Option.some (PySem.Value.ref 13), Option.some (PySem.Value.ref 3), Option.some (PySem.Value.ref 3), Option.none, Option.some (PySem.Value.str (PySem.Str.ofString "__main__") 164), Option.none, Option.some (PySem.Value.ref 0)] }
noncomputable def ob51 (P : PySem.Params) : PySem.Obj :=
  { cls := PySem.Value.type "tuple", data := PySem.Data.seq #[] }
noncomputable def ob52 (P : PySem.Params) : PySem.Obj :=
  { cls := PySem.Value.none, data := PySem.Data.fields #[] }
noncomputable def ob53 (P : PySem.Params) : PySem.Obj :=
  { cls := PySem.Value.type "tuple", data := PySem.Data.seq #[PySem.Value.str (PySem.Str.ofString "k") 190] }
noncomputable def ob54 (P : PySem.Params) : PySem.Obj :=
  { cls := PySem.Value.type "tuple", data := PySem.Data.seq #[] }
noncomputable def ob55 (P : PySem.Params) : PySem.Obj :=
  { cls := PySem.Value.none, data := PySem.Data.func { name := PySem.Str.ofString "_wall", qualname := PySem.Str.ofString "_wall", params := Mine.dArgs (Mine.at_ Mine.M 0), body := PySem.FuncBody.stmts (Mine.dBody (Mine.at_ Mine.M 0)), scope := Mine.dScope (Mine.at_ Mine.M 0), globals := 0, closure := [], defaults := PySem.Value.none, kwdefaults := PySem.Value.none } }
noncomputable def ob56 (P : PySem.Params) : PySem.Obj :=
  { cls := PySem.Value.type "code", data := PySem.Data.fields #[PySem.Value.str (PySem.Str.ofString "_wall") 187, PySem.Value.str (PySem.Str.ofString "_wall") 188, PySem.Value.str (PySem.Str.ofString "/claim/cut.py") 189, PySem.Value.int 1 0, PySem.Value.int 1 0, PySem.Value.int 0 0, PySem.Value.int 0 0, PySem.Value.int 3 0, PySem.Value.ref 15, PySem.Value.bool Bool.true, PySem.Value.int 181 0, PySem.Value.ref 16, PySem.Value.none, PySem.Value.ref 17, PySem.Value.ref 18, PySem.Value.ref 19, PySem.Value.int 191 0, PySem.Value.int 1 0, PySem.Value.str (PySem.Str.ofString "/claim/cut.py") 192] }
noncomputable def ob57 (P : PySem.Params) : PySem.Obj :=
  { cls := PySem.Value.type "function", data := PySem.Data.func { name := PySem.Str.ofString "_wall", qualname := PySem.Str.ofString "_wall", params := Mine.dArgs (Mine.at_ Mine.M 0), body := PySem.FuncBody.stmts (Mine.dBody (Mine.at_ Mine.M 0)), scope := Mine.dScope (Mine.at_ Mine.M 0), globals := 3, closure := [], defaults := PySem.Value.none, kwdefaults := PySem.Value.none, pyModule := PySem.Value.str (PySem.Str.ofString "__main__") 164, code := PySem.Value.ref 20 } }
noncomputable def ob58 (P : PySem.Params) : PySem.Obj :=
  { cls := PySem.Value.type "tuple", data := PySem.Data.seq #[] }
noncomputable def ob59 (P : PySem.Params) : PySem.Obj :=
  { cls := PySem.Value.type "builtin_function_or_method", data := PySem.Data.fields #[PySem.Value.builtin "type.__prepare__", PySem.Value.type "type"] }
noncomputable def ob60 (P : PySem.Params) : PySem.Obj :=
  { cls := PySem.Value.type "dict", data := PySem.Data.dict #[{ hash := PySem.PyData.keyHash P (PySem.Str.ofString "__module__"), key := PySem.Value.str (PySem.Str.ofString "__module__") 203, val := PySem.Value.str (PySem.Str.ofString "postkeep.wire") 194 }, { hash := PySem.PyData.keyHash P (PySem.Str.ofString "__qualname__"), key := PySem.Value.str (PySem.Str.ofString "__qualname__") 205, val := PySem.Value.str (PySem.Str.ofString "Atom") 204 }, { hash := PySem.PyData.keyHash P (PySem.Str.ofString "__firstlineno__"), key := PySem.Value.str (PySem.Str.ofString "__firstlineno__") 207, val := PySem.Value.int 5 206 }, { hash := PySem.PyData.keyHash P (PySem.Str.ofString "__init__"), key := PySem.Value.str (PySem.Str.ofString "__init__") 215, val := PySem.Value.ref 35 }, { hash := PySem.PyData.keyHash P (PySem.Str.ofString "told"), key := PySem.Value.str (PySem.Str.ofString "told") 222, val := PySem.Value.ref 42 }, { hash := PySem.PyData.keyHash P (PySem.Str.ofString "__static_attributes__"), key := PySem.Value.str (PySem.Str.ofString "__static_attributes__") 224, val := PySem.Value.ref 43 }] 6 }
noncomputable def ob61 (P : PySem.Params) : PySem.Obj :=
  { cls := PySem.Value.type "tuple", data := PySem.Data.seq #[] }
noncomputable def ob62 (P : PySem.Params) : PySem.Obj :=
  { cls := PySem.Value.none, data := PySem.Data.fields #[PySem.Value.int 7 0, PySem.Value.int 4 0, PySem.Value.ref 34, PySem.Value.int 10 0, PySem.Value.int 4 0, PySem.Value.ref 41] }
noncomputable def ob63 (P : PySem.Params) : PySem.Obj :=
  { cls := PySem.Value.type "code", data := PySem.Data.fields #[PySem.Value.str (PySem.Str.ofString "Atom") 198, PySem.Value.str (PySem.Str.ofString "Atom") 199, PySem.Value.str (PySem.Str.ofString "/claim/cut.py") 200, PySem.Value.int 5 0, PySem.Value.int 0 0, PySem.Value.int 0 0, PySem.Value.int 0 0, PySem.Value.int 0 0, PySem.Value.ref 25, PySem.Value.bool Bool.false, PySem.Value.int 181 0, PySem.Value.ref 26, PySem.Value.none, PySem.Value.none, PySem.Value.none, PySem.Value.none, PySem.Value.int 201 0, PySem.Value.int 5 0, PySem.Value.str (PySem.Str.ofString "/claim/cut.py") 202] }
noncomputable def ob64 (P : PySem.Params) : PySem.Obj :=
  { cls := PySem.Value.type "frame", slots := #[Option.some (PySem.Value.ref 27), Option.some (PySem.Value.ref 3), Option.some (PySem.Value.ref 24), Option.none, Option.some (PySem.Value.str (PySem.Str.ofString "postkeep.wire") 194), Option.none, Option.some (PySem.Value.ref 0)] }
noncomputable def ob65 (P : PySem.Params) : PySem.Obj :=
  { cls := PySem.Value.type "tuple", data := PySem.Data.seq #[] }
noncomputable def ob66 (P : PySem.Params) : PySem.Obj :=
  { cls := PySem.Value.none, data := PySem.Data.fields #[] }
noncomputable def ob67 (P : PySem.Params) : PySem.Obj :=
  { cls := PySem.Value.type "tuple", data := PySem.Data.seq #[PySem.Value.str (PySem.Str.ofString "self") 211, PySem.Value.str (PySem.Str.ofString "text") 212] }
noncomputable def ob68 (P : PySem.Params) : PySem.Obj :=
  { cls := PySem.Value.type "tuple", data := PySem.Data.seq #[] }
noncomputable def ob69 (P : PySem.Params) : PySem.Obj :=
  { cls := PySem.Value.none, data := PySem.Data.func { name := PySem.Str.ofString "__init__", qualname := PySem.Str.ofString "Atom.__init__", params := Mine.dArgs (Mine.at_ (Mine.dBody (Mine.at_ Mine.M 2)) 0), body := PySem.FuncBody.stmts (Mine.dBody (Mine.at_ (Mine.dBody (Mine.at_ Mine.M 2)) 0)), scope := Mine.dScope (Mine.at_ (Mine.dBody (Mine.at_ Mine.M 2)) 0), globals := 0, closure := [], defaults := PySem.Value.none, kwdefaults := PySem.Value.none } }
noncomputable def ob70 (P : PySem.Params) : PySem.Obj :=
  { cls := PySem.Value.type "code", data := PySem.Data.fields #[PySem.Value.str (PySem.Str.ofString "__init__") 208, PySem.Value.str (PySem.Str.ofString "Atom.__init__") 209, PySem.Value.str (PySem.Str.ofString "/claim/cut.py") 210, PySem.Value.int 7 0, PySem.Value.int 2 0, PySem.Value.int 0 0, PySem.Value.int 0 0, PySem.Value.int 3 0, PySem.Value.ref 29, PySem.Value.bool Bool.true, PySem.Value.int 181 0, PySem.Value.ref 30, PySem.Value.none, PySem.Value.ref 31, PySem.Value.ref 32, PySem.Value.ref 33, PySem.Value.int 213 0, PySem.Value.int 7 0, PySem.Value.str (PySem.Str.ofString "/claim/cut.py") 214] }
noncomputable def ob71 (P : PySem.Params) : PySem.Obj :=
  { cls := PySem.Value.type "function", data := PySem.Data.func { name := PySem.Str.ofString "__init__", qualname := PySem.Str.ofString "Atom.__init__", params := Mine.dArgs (Mine.at_ (Mine.dBody (Mine.at_ Mine.M 2)) 0), body := PySem.FuncBody.stmts (Mine.dBody (Mine.at_ (Mine.dBody (Mine.at_ Mine.M 2)) 0)), scope := Mine.dScope (Mine.at_ (Mine.dBody (Mine.at_ Mine.M 2)) 0), globals := 3, closure := [], defaults := PySem.Value.none, kwdefaults := PySem.Value.none, pyModule := PySem.Value.str (PySem.Str.ofString "postkeep.wire") 194, code := PySem.Value.ref 34 } }
noncomputable def ob72 (P : PySem.Params) : PySem.Obj :=
  { cls := PySem.Value.type "tuple", data := PySem.Data.seq #[] }
noncomputable def ob73 (P : PySem.Params) : PySem.Obj :=
  { cls := PySem.Value.none, data := PySem.Data.fields #[] }
noncomputable def ob74 (P : PySem.Params) : PySem.Obj :=
  { cls := PySem.Value.type "tuple", data := PySem.Data.seq #[PySem.Value.str (PySem.Str.ofString "self") 219] }
noncomputable def ob75 (P : PySem.Params) : PySem.Obj :=
  { cls := PySem.Value.type "tuple", data := PySem.Data.seq #[] }
noncomputable def ob76 (P : PySem.Params) : PySem.Obj :=
  { cls := PySem.Value.none, data := PySem.Data.func { name := PySem.Str.ofString "told", qualname := PySem.Str.ofString "Atom.told", params := Mine.dArgs (Mine.at_ (Mine.dBody (Mine.at_ Mine.M 2)) 1), body := PySem.FuncBody.stmts (Mine.dBody (Mine.at_ (Mine.dBody (Mine.at_ Mine.M 2)) 1)), scope := Mine.dScope (Mine.at_ (Mine.dBody (Mine.at_ Mine.M 2)) 1), globals := 0, closure := [], defaults := PySem.Value.none, kwdefaults := PySem.Value.none } }
noncomputable def ob77 (P : PySem.Params) : PySem.Obj :=
  { cls := PySem.Value.type "code", data := PySem.Data.fields #[PySem.Value.str (PySem.Str.ofString "told") 216, PySem.Value.str (PySem.Str.ofString "Atom.told") 217, PySem.Value.str (PySem.Str.ofString "/claim/cut.py") 218, PySem.Value.int 10 0, PySem.Value.int 1 0, PySem.Value.int 0 0, PySem.Value.int 0 0, PySem.Value.int 3 0, PySem.Value.ref 36, PySem.Value.bool Bool.true, PySem.Value.int 181 0, PySem.Value.ref 37, PySem.Value.none, PySem.Value.ref 38, PySem.Value.ref 39, PySem.Value.ref 40, PySem.Value.int 220 0, PySem.Value.int 10 0, PySem.Value.str (PySem.Str.ofString "/claim/cut.py") 221] }
noncomputable def ob78 (P : PySem.Params) : PySem.Obj :=
  { cls := PySem.Value.type "function", data := PySem.Data.func { name := PySem.Str.ofString "told", qualname := PySem.Str.ofString "Atom.told", params := Mine.dArgs (Mine.at_ (Mine.dBody (Mine.at_ Mine.M 2)) 1), body := PySem.FuncBody.stmts (Mine.dBody (Mine.at_ (Mine.dBody (Mine.at_ Mine.M 2)) 1)), scope := Mine.dScope (Mine.at_ (Mine.dBody (Mine.at_ Mine.M 2)) 1), globals := 3, closure := [], defaults := PySem.Value.none, kwdefaults := PySem.Value.none, pyModule := PySem.Value.str (PySem.Str.ofString "postkeep.wire") 194, code := PySem.Value.ref 41 } }
noncomputable def ob79 (P : PySem.Params) : PySem.Obj :=
  { cls := PySem.Value.type "tuple", data := PySem.Data.seq #[PySem.Value.str (PySem.Str.ofString "text") 223] }
noncomputable def ob80 (P : PySem.Params) : PySem.Obj :=
  { cls := PySem.Value.type "dict", data := PySem.Data.dict #[{ hash := PySem.PyData.keyHash P (PySem.Str.ofString "__module__"), key := PySem.Value.str (PySem.Str.ofString "__module__") 203, val := PySem.Value.str (PySem.Str.ofString "postkeep.wire") 194 }, { hash := PySem.PyData.keyHash P (PySem.Str.ofString "__firstlineno__"), key := PySem.Value.str (PySem.Str.ofString "__firstlineno__") 207, val := PySem.Value.int 5 206 }, { hash := PySem.PyData.keyHash P (PySem.Str.ofString "__init__"), key := PySem.Value.str (PySem.Str.ofString "__init__") 215, val := PySem.Value.ref 35 }, { hash := PySem.PyData.keyHash P (PySem.Str.ofString "told"), key := PySem.Value.str (PySem.Str.ofString "told") 222, val := PySem.Value.ref 42 }, { hash := PySem.PyData.keyHash P (PySem.Str.ofString "__static_attributes__"), key := PySem.Value.str (PySem.Str.ofString "__static_attributes__") 224, val := PySem.Value.ref 43 }, { hash := PySem.PyData.keyHash P (PySem.Str.ofString "__dict__"), key := PySem.Value.str (PySem.Str.ofString "__dict__") 226, val := PySem.Value.ref 46 }, { hash := PySem.PyData.keyHash P (PySem.Str.ofString "__weakref__"), key := PySem.Value.str (PySem.Str.ofString "__weakref__") 228, val := PySem.Value.ref 47 }, { hash := PySem.PyData.keyHash P (PySem.Str.ofString "__doc__"), key := PySem.Value.str (PySem.Str.ofString "__doc__") 229, val := PySem.Value.none }] 4 }
noncomputable def ob81 (P : PySem.Params) : PySem.Obj :=
  { cls := PySem.Value.type "type", data := PySem.Data.cls { name := PySem.Str.ofString "Atom", bases := [PySem.Value.type "object"], mro := [PySem.Value.ref 45, PySem.Value.type "object"], ns := 44, qualname := PySem.Str.ofString "Atom" }, slots := #[Option.none, Option.none, Option.some (PySem.Value.str (PySem.Str.ofString "Atom") 196), Option.some (PySem.Value.str (PySem.Str.ofString "Atom") 204), Option.some (PySem.Value.builtin "object.__new__"), Option.some (PySem.Value.bool Bool.true)] }
noncomputable def ob82 (P : PySem.Params) : PySem.Obj :=
  { cls := PySem.Value.type "getset_descriptor", data := PySem.Data.fields #[PySem.Value.str (PySem.Str.ofString "__dict__") 225, PySem.Value.ref 45, PySem.Value.builtin "function.__dict__", PySem.Value.builtin "function.__dict__#set"] }
noncomputable def ob83 (P : PySem.Params) : PySem.Obj :=
  { cls := PySem.Value.type "getset_descriptor", data := PySem.Data.fields #[PySem.Value.str (PySem.Str.ofString "__weakref__") 227, PySem.Value.ref 45, PySem.Value.builtin "ExceptionGroup.__weakref__", PySem.Value.none] }
noncomputable def ob84 (P : PySem.Params) : PySem.Obj :=
  { cls := PySem.Value.type "super", data := PySem.Data.fields #[PySem.Value.ref 45, PySem.Value.ref 45, PySem.Value.ref 45] }
noncomputable def ob85 (P : PySem.Params) : PySem.Obj :=
  { cls := PySem.Value.type "builtin_function_or_method", data := PySem.Data.fields #[PySem.Value.builtin "object.__init_subclass__", PySem.Value.ref 45] }
noncomputable def ob86 (P : PySem.Params) : PySem.Obj :=
  { cls := PySem.Value.type "dict", data := PySem.Data.dict #[{ hash := PySem.PyData.keyHash P (PySem.Str.ofString "__name__"), key := PySem.Value.str (PySem.Str.ofString "__name__") 165, val := PySem.Value.str (PySem.Str.ofString "postkeep.view") 232 }, { hash := PySem.PyData.keyHash P (PySem.Str.ofString "__doc__"), key := PySem.Value.str (PySem.Str.ofString "__doc__") 166, val := PySem.Value.none }, { hash := PySem.PyData.keyHash P (PySem.Str.ofString "__package__"), key := PySem.Value.str (PySem.Str.ofString "__package__") 167, val := PySem.Value.none }, { hash := PySem.PyData.keyHash P (PySem.Str.ofString "__loader__"), key := PySem.Value.str (PySem.Str.ofString "__loader__") 168, val := PySem.Value.builtin "__main__.__loader__#opaque" }, { hash := PySem.PyData.keyHash P (PySem.Str.ofString "__spec__"), key := PySem.Value.str (PySem.Str.ofString "__spec__") 169, val := PySem.Value.none }, { hash := PySem.PyData.keyHash P (PySem.Str.ofString "__annotations__"), key := PySem.Value.str (PySem.Str.ofString "__annotations__") 170, val := PySem.Value.ref 6 }, { hash := PySem.PyData.keyHash P (PySem.Str.ofString "__builtins__"), key := PySem.Value.str (PySem.Str.ofString "__builtins__") 171, val := PySem.Value.ref 4 }, { hash := PySem.PyData.keyHash P (PySem.Str.ofString "__file__"), key := PySem.Value.str (PySem.Str.ofString "__file__") 173, val := PySem.Value.str (PySem.Str.ofString "/claim/cut.py") 172 }, { hash := PySem.PyData.keyHash P (PySem.Str.ofString "__cached__"), key := PySem.Value.str (PySem.Str.ofString "__cached__") 174, val := PySem.Value.none }, { hash := PySem.PyData.keyHash P (PySem.Str.ofString "_wall"), key := PySem.Value.str (PySem.Str.ofString "_wall") 193, val := PySem.Value.ref 21 }, { hash := PySem.PyData.keyHash P (PySem.Str.ofString "Atom"), key := PySem.Value.str (PySem.Str.ofString "Atom") 231, val := PySem.Value.ref 45 }, { hash := PySem.PyData.keyHash P (PySem.Str.ofString "View"), key := PySem.Value.str (PySem.Str.ofString "View") 305, val := PySem.Value.ref 98 }] 12 }
noncomputable def ob87 (P : PySem.Params) : PySem.Obj :=
  { cls := PySem.Value.none, data := PySem.Data.fields #[PySem.Value.int 1 0, PySem.Value.int 0 0, PySem.Value.ref 20, PySem.Value.int 5 0, PySem.Value.int 0 0, PySem.Value.ref 27, PySem.Value.int 13 0, PySem.Value.int 0 0, PySem.Value.ref 55] }
noncomputable def ob88 (P : PySem.Params) : PySem.Obj :=
  { cls := PySem.Value.type "tuple", data := PySem.Data.seq #[] }
noncomputable def ob89 (P : PySem.Params) : PySem.Obj :=
  { cls := PySem.Value.type "builtin_function_or_method", data := PySem.Data.fields #[PySem.Value.builtin "type.__prepare__", PySem.Value.type "type"] }
noncomputable def ob90 (P : PySem.Params) : PySem.Obj :=
  { cls := PySem.Value.type "dict", data := PySem.Data.dict #[{ hash := PySem.PyData.keyHash P (PySem.Str.ofString "__module__"), key := PySem.Value.str (PySem.Str.ofString "__module__") 241, val := PySem.Value.str (PySem.Str.ofString "postkeep.view") 232 }, { hash := PySem.PyData.keyHash P (PySem.Str.ofString "__qualname__"), key := PySem.Value.str (PySem.Str.ofString "__qualname__") 243, val := PySem.Value.str (PySem.Str.ofString "View") 242 }, { hash := PySem.PyData.keyHash P (PySem.Str.ofString "__firstlineno__"), key := PySem.Value.str (PySem.Str.ofString "__firstlineno__") 245, val := PySem.Value.int 13 244 }, { hash := PySem.PyData.keyHash P (PySem.Str.ofString "__init__"), key := PySem.Value.str (PySem.Str.ofString "__init__") 251, val := PySem.Value.ref 62 }, { hash := PySem.PyData.keyHash P (PySem.Str.ofString "number_of"), key := PySem.Value.str (PySem.Str.ofString "number_of") 259, val := PySem.Value.ref 69 }, { hash := PySem.PyData.keyHash P (PySem.Str.ofString "uid_at"), key := PySem.Value.str (PySem.Str.ofString "uid_at") 267, val := PySem.Value.ref 76 }, { hash := PySem.PyData.keyHash P (PySem.Str.ofString "uids_in"), key := PySem.Value.str (PySem.Str.ofString "uids_in") 276, val := PySem.Value.ref 83 }, { hash := PySem.PyData.keyHash P (PySem.Str.ofString "has_number"), key := PySem.Value.str (PySem.Str.ofString "has_number") 284, val := PySem.Value.ref 90 }, { hash := PySem.PyData.keyHash P (PySem.Str.ofString "told"), key := PySem.Value.str (PySem.Str.ofString "told") 290, val := PySem.Value.ref 95 }, { hash := PySem.PyData.keyHash P (PySem.Str.ofString "__static_attributes__"), key := PySem.Value.str (PySem.Str.ofString "__static_attributes__") 298, val := PySem.Value.ref 96 }] 10 }
noncomputable def ob91 (P : PySem.Params) : PySem.Obj :=
  { cls := PySem.Value.type "tuple", data := PySem.Data.seq #[] }
noncomputable def ob92 (P : PySem.Params) : PySem.Obj :=
  { cls := PySem.Value.none, data := PySem.Data.fields #[PySem.Value.int 15 0, PySem.Value.int 4 0, PySem.Value.ref 61, PySem.Value.int 24 0, PySem.Value.int 4 0, PySem.Value.ref 68, PySem.Value.int 27 0, PySem.Value.int 4 0, PySem.Value.ref 75, PySem.Value.int 30 0, PySem.Value.int 4 0, PySem.Value.ref 82, PySem.Value.int 33 0, PySem.Value.int 4 0, PySem.Value.ref 89, PySem.Value.int 36 0, PySem.Value.int 4 0, PySem.Value.ref 94] }
noncomputable def ob93 (P : PySem.Params) : PySem.Obj :=
  { cls := PySem.Value.type "code", data := PySem.Data.fields #[PySem.Value.str (PySem.Str.ofString "View") 236, PySem.Value.str (PySem.Str.ofString "View") 237, PySem.Value.str (PySem.Str.ofString "/claim/cut.py") 238, PySem.Value.int 13 0, PySem.Value.int 0 0, PySem.Value.int 0 0, PySem.Value.int 0 0, PySem.Value.int 0 0, PySem.Value.ref 53, PySem.Value.bool Bool.false, PySem.Value.int 181 0, PySem.Value.ref 54, PySem.Value.none, PySem.Value.none, PySem.Value.none, PySem.Value.none, PySem.Value.int 239 0, PySem.Value.int 13 0, PySem.Value.str (PySem.Str.ofString "/claim/cut.py") 240] }
noncomputable def ob94 (P : PySem.Params) : PySem.Obj :=
  { cls := PySem.Value.type "frame", slots := #[Option.some (PySem.Value.ref 55), Option.some (PySem.Value.ref 3), Option.some (PySem.Value.ref 52), Option.none, Option.some (PySem.Value.str (PySem.Str.ofString "postkeep.view") 232), Option.none, Option.some (PySem.Value.ref 0)] }
noncomputable def ob95 (P : PySem.Params) : PySem.Obj :=
  { cls := PySem.Value.type "tuple", data := PySem.Data.seq #[PySem.Value.bool Bool.false, PySem.Value.bool Bool.false, PySem.Value.bool Bool.false] }
noncomputable def ob96 (P : PySem.Params) : PySem.Obj :=
  { cls := PySem.Value.type "tuple", data := PySem.Data.seq #[] }
noncomputable def ob97 (P : PySem.Params) : PySem.Obj :=
  { cls := PySem.Value.none, data := PySem.Data.fields #[] }
noncomputable def ob98 (P : PySem.Params) : PySem.Obj :=
  { cls := PySem.Value.none, data := PySem.Data.func { name := PySem.Str.ofString "__init__", qualname := PySem.Str.ofString "View.__init__", params := Mine.dArgs (Mine.at_ (Mine.dBody (Mine.at_ Mine.M 4)) 0), body := PySem.FuncBody.stmts (Mine.dBody (Mine.at_ (Mine.dBody (Mine.at_ Mine.M 4)) 0)), scope := Mine.dScope (Mine.at_ (Mine.dBody (Mine.at_ Mine.M 4)) 0), globals := 0, closure := [], defaults := PySem.Value.none, kwdefaults := PySem.Value.none } }
noncomputable def ob99 (P : PySem.Params) : PySem.Obj :=
  { cls := PySem.Value.type "code", data := PySem.Data.fields #[PySem.Value.str (PySem.Str.ofString "__init__") 246, PySem.Value.str (PySem.Str.ofString "View.__init__") 247, PySem.Value.str (PySem.Str.ofString "/claim/cut.py") 248, PySem.Value.int 15 0, PySem.Value.int 5 0, PySem.Value.int 0 0, PySem.Value.int 0 0, PySem.Value.int 3 0, PySem.Value.ref 58, PySem.Value.bool Bool.true, PySem.Value.int 181 0, PySem.Value.ref 59, PySem.Value.none, PySem.Value.none, PySem.Value.none, PySem.Value.ref 60, PySem.Value.int 249 0, PySem.Value.int 15 0, PySem.Value.str (PySem.Str.ofString "/claim/cut.py") 250] }
noncomputable def ob100 (P : PySem.Params) : PySem.Obj :=
  { cls := PySem.Value.type "function", data := PySem.Data.func { name := PySem.Str.ofString "__init__", qualname := PySem.Str.ofString "View.__init__", params := Mine.dArgs (Mine.at_ (Mine.dBody (Mine.at_ Mine.M 4)) 0), body := PySem.FuncBody.stmts (Mine.dBody (Mine.at_ (Mine.dBody (Mine.at_ Mine.M 4)) 0)), scope := Mine.dScope (Mine.at_ (Mine.dBody (Mine.at_ Mine.M 4)) 0), globals := 3, closure := [], defaults := PySem.Value.ref 57, kwdefaults := PySem.Value.none, pyModule := PySem.Value.str (PySem.Str.ofString "postkeep.view") 232, code := PySem.Value.ref 61 } }
noncomputable def ob101 (P : PySem.Params) : PySem.Obj :=
  { cls := PySem.Value.type "tuple", data := PySem.Data.seq #[] }
noncomputable def ob102 (P : PySem.Params) : PySem.Obj :=
  { cls := PySem.Value.none, data := PySem.Data.fields #[] }
noncomputable def ob103 (P : PySem.Params) : PySem.Obj :=
  { cls := PySem.Value.type "tuple", data := PySem.Data.seq #[PySem.Value.str (PySem.Str.ofString "self") 255, PySem.Value.str (PySem.Str.ofString "uid") 256] }
noncomputable def ob104 (P : PySem.Params) : PySem.Obj :=
  { cls := PySem.Value.type "tuple", data := PySem.Data.seq #[] }
noncomputable def ob105 (P : PySem.Params) : PySem.Obj :=
  { cls := PySem.Value.none, data := PySem.Data.func { name := PySem.Str.ofString "number_of", qualname := PySem.Str.ofString "View.number_of", params := Mine.dArgs (Mine.at_ (Mine.dBody (Mine.at_ Mine.M 4)) 1), body := PySem.FuncBody.stmts (Mine.dBody (Mine.at_ (Mine.dBody (Mine.at_ Mine.M 4)) 1)), scope := Mine.dScope (Mine.at_ (Mine.dBody (Mine.at_ Mine.M 4)) 1), globals := 0, closure := [], defaults := PySem.Value.none, kwdefaults := PySem.Value.none } }
noncomputable def ob106 (P : PySem.Params) : PySem.Obj :=
  { cls := PySem.Value.type "code", data := PySem.Data.fields #[PySem.Value.str (PySem.Str.ofString "number_of") 252, PySem.Value.str (PySem.Str.ofString "View.number_of") 253, PySem.Value.str (PySem.Str.ofString "/claim/cut.py") 254, PySem.Value.int 24 0, PySem.Value.int 2 0, PySem.Value.int 0 0, PySem.Value.int 0 0, PySem.Value.int 3 0, PySem.Value.ref 63, PySem.Value.bool Bool.true, PySem.Value.int 181 0, PySem.Value.ref 64, PySem.Value.none, PySem.Value.ref 65, PySem.Value.ref 66, PySem.Value.ref 67, PySem.Value.int 257 0, PySem.Value.int 24 0, PySem.Value.str (PySem.Str.ofString "/claim/cut.py") 258] }
noncomputable def ob107 (P : PySem.Params) : PySem.Obj :=
  { cls := PySem.Value.type "function", data := PySem.Data.func { name := PySem.Str.ofString "number_of", qualname := PySem.Str.ofString "View.number_of", params := Mine.dArgs (Mine.at_ (Mine.dBody (Mine.at_ Mine.M 4)) 1), body := PySem.FuncBody.stmts (Mine.dBody (Mine.at_ (Mine.dBody (Mine.at_ Mine.M 4)) 1)), scope := Mine.dScope (Mine.at_ (Mine.dBody (Mine.at_ Mine.M 4)) 1), globals := 3, closure := [], defaults := PySem.Value.none, kwdefaults := PySem.Value.none, pyModule := PySem.Value.str (PySem.Str.ofString "postkeep.view") 232, code := PySem.Value.ref 68 } }
noncomputable def ob108 (P : PySem.Params) : PySem.Obj :=
  { cls := PySem.Value.type "tuple", data := PySem.Data.seq #[] }
noncomputable def ob109 (P : PySem.Params) : PySem.Obj :=
  { cls := PySem.Value.none, data := PySem.Data.fields #[] }
noncomputable def ob110 (P : PySem.Params) : PySem.Obj :=
  { cls := PySem.Value.type "tuple", data := PySem.Data.seq #[PySem.Value.str (PySem.Str.ofString "self") 263, PySem.Value.str (PySem.Str.ofString "number") 264] }
noncomputable def ob111 (P : PySem.Params) : PySem.Obj :=
  { cls := PySem.Value.type "tuple", data := PySem.Data.seq #[] }
noncomputable def ob112 (P : PySem.Params) : PySem.Obj :=
  { cls := PySem.Value.none, data := PySem.Data.func { name := PySem.Str.ofString "uid_at", qualname := PySem.Str.ofString "View.uid_at", params := Mine.dArgs (Mine.at_ (Mine.dBody (Mine.at_ Mine.M 4)) 2), body := PySem.FuncBody.stmts (Mine.dBody (Mine.at_ (Mine.dBody (Mine.at_ Mine.M 4)) 2)), scope := Mine.dScope (Mine.at_ (Mine.dBody (Mine.at_ Mine.M 4)) 2), globals := 0, closure := [], defaults := PySem.Value.none, kwdefaults := PySem.Value.none } }
noncomputable def ob113 (P : PySem.Params) : PySem.Obj :=
  { cls := PySem.Value.type "code", data := PySem.Data.fields #[PySem.Value.str (PySem.Str.ofString "uid_at") 260, PySem.Value.str (PySem.Str.ofString "View.uid_at") 261, PySem.Value.str (PySem.Str.ofString "/claim/cut.py") 262, PySem.Value.int 27 0, PySem.Value.int 2 0, PySem.Value.int 0 0, PySem.Value.int 0 0, PySem.Value.int 3 0, PySem.Value.ref 70, PySem.Value.bool Bool.true, PySem.Value.int 181 0, PySem.Value.ref 71, PySem.Value.none, PySem.Value.ref 72, PySem.Value.ref 73, PySem.Value.ref 74, PySem.Value.int 265 0, PySem.Value.int 27 0, PySem.Value.str (PySem.Str.ofString "/claim/cut.py") 266] }
noncomputable def ob114 (P : PySem.Params) : PySem.Obj :=
  { cls := PySem.Value.type "function", data := PySem.Data.func { name := PySem.Str.ofString "uid_at", qualname := PySem.Str.ofString "View.uid_at", params := Mine.dArgs (Mine.at_ (Mine.dBody (Mine.at_ Mine.M 4)) 2), body := PySem.FuncBody.stmts (Mine.dBody (Mine.at_ (Mine.dBody (Mine.at_ Mine.M 4)) 2)), scope := Mine.dScope (Mine.at_ (Mine.dBody (Mine.at_ Mine.M 4)) 2), globals := 3, closure := [], defaults := PySem.Value.none, kwdefaults := PySem.Value.none, pyModule := PySem.Value.str (PySem.Str.ofString "postkeep.view") 232, code := PySem.Value.ref 75 } }
noncomputable def ob115 (P : PySem.Params) : PySem.Obj :=
  { cls := PySem.Value.type "tuple", data := PySem.Data.seq #[] }
noncomputable def ob116 (P : PySem.Params) : PySem.Obj :=
  { cls := PySem.Value.none, data := PySem.Data.fields #[] }
noncomputable def ob117 (P : PySem.Params) : PySem.Obj :=
  { cls := PySem.Value.type "tuple", data := PySem.Data.seq #[PySem.Value.str (PySem.Str.ofString "self") 271, PySem.Value.str (PySem.Str.ofString "some") 272, PySem.Value.str (PySem.Str.ofString "is_uid") 273] }
noncomputable def ob118 (P : PySem.Params) : PySem.Obj :=
  { cls := PySem.Value.type "tuple", data := PySem.Data.seq #[] }
noncomputable def ob119 (P : PySem.Params) : PySem.Obj :=
  { cls := PySem.Value.none, data := PySem.Data.func { name := PySem.Str.ofString "uids_in", qualname := PySem.Str.ofString "View.uids_in", params := Mine.dArgs (Mine.at_ (Mine.dBody (Mine.at_ Mine.M 4)) 3), body := PySem.FuncBody.stmts (Mine.dBody (Mine.at_ (Mine.dBody (Mine.at_ Mine.M 4)) 3)), scope := Mine.dScope (Mine.at_ (Mine.dBody (Mine.at_ Mine.M 4)) 3), globals := 0, closure := [], defaults := PySem.Value.none, kwdefaults := PySem.Value.none } }
noncomputable def ob120 (P : PySem.Params) : PySem.Obj :=
  { cls := PySem.Value.type "code", data := PySem.Data.fields #[PySem.Value.str (PySem.Str.ofString "uids_in") 268, PySem.Value.str (PySem.Str.ofString "View.uids_in") 269, PySem.Value.str (PySem.Str.ofString "/claim/cut.py") 270, PySem.Value.int 30 0, PySem.Value.int 3 0, PySem.Value.int 0 0, PySem.Value.int 0 0, PySem.Value.int 3 0, PySem.Value.ref 77, PySem.Value.bool Bool.true, PySem.Value.int 181 0, PySem.Value.ref 78, PySem.Value.none, PySem.Value.ref 79, PySem.Value.ref 80, PySem.Value.ref 81, PySem.Value.int 274 0, PySem.Value.int 30 0, PySem.Value.str (PySem.Str.ofString "/claim/cut.py") 275] }
noncomputable def ob121 (P : PySem.Params) : PySem.Obj :=
  { cls := PySem.Value.type "function", data := PySem.Data.func { name := PySem.Str.ofString "uids_in", qualname := PySem.Str.ofString "View.uids_in", params := Mine.dArgs (Mine.at_ (Mine.dBody (Mine.at_ Mine.M 4)) 3), body := PySem.FuncBody.stmts (Mine.dBody (Mine.at_ (Mine.dBody (Mine.at_ Mine.M 4)) 3)), scope := Mine.dScope (Mine.at_ (Mine.dBody (Mine.at_ Mine.M 4)) 3), globals := 3, closure := [], defaults := PySem.Value.none, kwdefaults := PySem.Value.none, pyModule := PySem.Value.str (PySem.Str.ofString "postkeep.view") 232, code := PySem.Value.ref 82 } }
noncomputable def ob122 (P : PySem.Params) : PySem.Obj :=
  { cls := PySem.Value.type "tuple", data := PySem.Data.seq #[] }
noncomputable def ob123 (P : PySem.Params) : PySem.Obj :=
  { cls := PySem.Value.none, data := PySem.Data.fields #[] }
noncomputable def ob124 (P : PySem.Params) : PySem.Obj :=
  { cls := PySem.Value.type "tuple", data := PySem.Data.seq #[PySem.Value.str (PySem.Str.ofString "self") 280, PySem.Value.str (PySem.Str.ofString "some") 281] }
noncomputable def ob125 (P : PySem.Params) : PySem.Obj :=
  { cls := PySem.Value.type "tuple", data := PySem.Data.seq #[] }
noncomputable def ob126 (P : PySem.Params) : PySem.Obj :=
  { cls := PySem.Value.none, data := PySem.Data.func { name := PySem.Str.ofString "has_number", qualname := PySem.Str.ofString "View.has_number", params := Mine.dArgs (Mine.at_ (Mine.dBody (Mine.at_ Mine.M 4)) 4), body := PySem.FuncBody.stmts (Mine.dBody (Mine.at_ (Mine.dBody (Mine.at_ Mine.M 4)) 4)), scope := Mine.dScope (Mine.at_ (Mine.dBody (Mine.at_ Mine.M 4)) 4), globals := 0, closure := [], defaults := PySem.Value.none, kwdefaults := PySem.Value.none } }
noncomputable def ob127 (P : PySem.Params) : PySem.Obj :=
  { cls := PySem.Value.type "code", data := PySem.Data.fields #[PySem.Value.str (PySem.Str.ofString "has_number") 277, PySem.Value.str (PySem.Str.ofString "View.has_number") 278, PySem.Value.str (PySem.Str.ofString "/claim/cut.py") 279, PySem.Value.int 33 0, PySem.Value.int 2 0, PySem.Value.int 0 0, PySem.Value.int 0 0, PySem.Value.int 3 0, PySem.Value.ref 84, PySem.Value.bool Bool.true, PySem.Value.int 181 0, PySem.Value.ref 85, PySem.Value.none, PySem.Value.ref 86, PySem.Value.ref 87, PySem.Value.ref 88, PySem.Value.int 282 0, PySem.Value.int 33 0, PySem.Value.str (PySem.Str.ofString "/claim/cut.py") 283] }
noncomputable def ob128 (P : PySem.Params) : PySem.Obj :=
  { cls := PySem.Value.type "function", data := PySem.Data.func { name := PySem.Str.ofString "has_number", qualname := PySem.Str.ofString "View.has_number", params := Mine.dArgs (Mine.at_ (Mine.dBody (Mine.at_ Mine.M 4)) 4), body := PySem.FuncBody.stmts (Mine.dBody (Mine.at_ (Mine.dBody (Mine.at_ Mine.M 4)) 4)), scope := Mine.dScope (Mine.at_ (Mine.dBody (Mine.at_ Mine.M 4)) 4), globals := 3, closure := [], defaults := PySem.Value.none, kwdefaults := PySem.Value.none, pyModule := PySem.Value.str (PySem.Str.ofString "postkeep.view") 232, code := PySem.Value.ref 89 } }
noncomputable def ob129 (P : PySem.Params) : PySem.Obj :=
  { cls := PySem.Value.type "tuple", data := PySem.Data.seq #[] }
noncomputable def ob130 (P : PySem.Params) : PySem.Obj :=
  { cls := PySem.Value.none, data := PySem.Data.fields #[] }
noncomputable def ob131 (P : PySem.Params) : PySem.Obj :=
  { cls := PySem.Value.none, data := PySem.Data.func { name := PySem.Str.ofString "told", qualname := PySem.Str.ofString "View.told", params := Mine.dArgs (Mine.at_ (Mine.dBody (Mine.at_ Mine.M 4)) 5), body := PySem.FuncBody.stmts (Mine.dBody (Mine.at_ (Mine.dBody (Mine.at_ Mine.M 4)) 5)), scope := Mine.dScope (Mine.at_ (Mine.dBody (Mine.at_ Mine.M 4)) 5), globals := 0, closure := [], defaults := PySem.Value.none, kwdefaults := PySem.Value.none } }
noncomputable def ob132 (P : PySem.Params) : PySem.Obj :=
  { cls := PySem.Value.type "code", data := PySem.Data.fields #[PySem.Value.str (PySem.Str.ofString "told") 285, PySem.Value.str (PySem.Str.ofString "View.told") 286, PySem.Value.str (PySem.Str.ofString "/claim/cut.py") 287, PySem.Value.int 36 0, PySem.Value.int 1 0, PySem.Value.int 0 0, PySem.Value.int 0 0, PySem.Value.int 3 0, PySem.Value.ref 91, PySem.Value.bool Bool.true, PySem.Value.int 181 0, PySem.Value.ref 92, PySem.Value.none, PySem.Value.none, PySem.Value.none, PySem.Value.ref 93, PySem.Value.int 288 0, PySem.Value.int 36 0, PySem.Value.str (PySem.Str.ofString "/claim/cut.py") 289] }
noncomputable def ob133 (P : PySem.Params) : PySem.Obj :=
  { cls := PySem.Value.type "function", data := PySem.Data.func { name := PySem.Str.ofString "told", qualname := PySem.Str.ofString "View.told", params := Mine.dArgs (Mine.at_ (Mine.dBody (Mine.at_ Mine.M 4)) 5), body := PySem.FuncBody.stmts (Mine.dBody (Mine.at_ (Mine.dBody (Mine.at_ Mine.M 4)) 5)), scope := Mine.dScope (Mine.at_ (Mine.dBody (Mine.at_ Mine.M 4)) 5), globals := 3, closure := [], defaults := PySem.Value.none, kwdefaults := PySem.Value.none, pyModule := PySem.Value.str (PySem.Str.ofString "postkeep.view") 232, code := PySem.Value.ref 94 } }
noncomputable def ob134 (P : PySem.Params) : PySem.Obj :=
  { cls := PySem.Value.type "tuple", data := PySem.Data.seq #[PySem.Value.str (PySem.Str.ofString "box") 291, PySem.Value.str (PySem.Str.ofString "flags") 292, PySem.Value.str (PySem.Str.ofString "is_readonly") 293, PySem.Value.str (PySem.Str.ofString "modseqs") 294, PySem.Value.str (PySem.Str.ofString "uids") 295, PySem.Value.str (PySem.Str.ofString "uses_modseq") 296, PySem.Value.str (PySem.Str.ofString "uses_vanished") 297] }
noncomputable def ob135 (P : PySem.Params) : PySem.Obj :=
  { cls := PySem.Value.type "dict", data := PySem.Data.dict #[{ hash := PySem.PyData.keyHash P (PySem.Str.ofString "__module__"), key := PySem.Value.str (PySem.Str.ofString "__module__") 241, val := PySem.Value.str (PySem.Str.ofString "postkeep.view") 232 }, { hash := PySem.PyData.keyHash P (PySem.Str.ofString "__firstlineno__"), key := PySem.Value.str (PySem.Str.ofString "__firstlineno__") 245, val := PySem.Value.int 13 244 }, { hash := PySem.PyData.keyHash P (PySem.Str.ofString "__init__"), key := PySem.Value.str (PySem.Str.ofString "__init__") 251, val := PySem.Value.ref 62 }, { hash := PySem.PyData.keyHash P (PySem.Str.ofString "number_of"), key := PySem.Value.str (PySem.Str.ofString "number_of") 259, val := PySem.Value.ref 69 }, { hash := PySem.PyData.keyHash P (PySem.Str.ofString "uid_at"), key := PySem.Value.str (PySem.Str.ofString "uid_at") 267, val := PySem.Value.ref 76 }, { hash := PySem.PyData.keyHash P (PySem.Str.ofString "uids_in"), key := PySem.Value.str (PySem.Str.ofString "uids_in") 276, val := PySem.Value.ref 83 }, { hash := PySem.PyData.keyHash P (PySem.Str.ofString "has_number"), key := PySem.Value.str (PySem.Str.ofString "has_number") 284, val := PySem.Value.ref 90 }, { hash := PySem.PyData.keyHash P (PySem.Str.ofString "told"), key := PySem.Value.str (PySem.Str.ofString "told") 290, val := PySem.Value.ref 95 }, { hash := PySem.PyData.keyHash P (PySem.Str.ofString "__static_attributes__"), key := PySem.Value.str (PySem.Str.ofString "__static_attributes__") 298, val := PySem.Value.ref 96 }, { hash := PySem.PyData.keyHash P (PySem.Str.ofString "__dict__"), key := PySem.Value.str (PySem.Str.ofString "__dict__") 300, val := PySem.Value.ref 99 }, { hash := PySem.PyData.keyHash P (PySem.Str.ofString "__weakref__"), key := PySem.Value.str (PySem.Str.ofString "__weakref__") 302, val := PySem.Value.ref 100 }, { hash := PySem.PyData.keyHash P (PySem.Str.ofString "__doc__"), key := PySem.Value.str (PySem.Str.ofString "__doc__") 303, val := PySem.Value.none }] 4 }
noncomputable def ob136 (P : PySem.Params) : PySem.Obj :=
  { cls := PySem.Value.type "type", data := PySem.Data.cls { name := PySem.Str.ofString "View", bases := [PySem.Value.type "object"], mro := [PySem.Value.ref 98, PySem.Value.type "object"], ns := 97, qualname := PySem.Str.ofString "View" }, slots := #[Option.none, Option.none, Option.some (PySem.Value.str (PySem.Str.ofString "View") 234), Option.some (PySem.Value.str (PySem.Str.ofString "View") 242), Option.some (PySem.Value.builtin "object.__new__"), Option.some (PySem.Value.bool Bool.true)] }
noncomputable def ob137 (P : PySem.Params) : PySem.Obj :=
  { cls := PySem.Value.type "getset_descriptor", data := PySem.Data.fields #[PySem.Value.str (PySem.Str.ofString "__dict__") 299, PySem.Value.ref 98, PySem.Value.builtin "function.__dict__", PySem.Value.builtin "function.__dict__#set"] }
noncomputable def ob138 (P : PySem.Params) : PySem.Obj :=
  { cls := PySem.Value.type "getset_descriptor", data := PySem.Data.fields #[PySem.Value.str (PySem.Str.ofString "__weakref__") 301, PySem.Value.ref 98, PySem.Value.builtin "ExceptionGroup.__weakref__", PySem.Value.none] }
noncomputable def ob139 (P : PySem.Params) : PySem.Obj :=
  { cls := PySem.Value.type "super", data := PySem.Data.fields #[PySem.Value.ref 98, PySem.Value.ref 98, PySem.Value.ref 98] }
noncomputable def ob140 (P : PySem.Params) : PySem.Obj :=
  { cls := PySem.Value.type "builtin_function_or_method", data := PySem.Data.fields #[PySem.Value.builtin "object.__init_subclass__", PySem.Value.ref 98] }
noncomputable def ob143 (P : PySem.Params) : PySem.Obj :=
  { cls := PySem.Value.type "tuple", data := PySem.Data.seq #[] }
noncomputable def ob144 (P : PySem.Params) : PySem.Obj :=
  { cls := PySem.Value.none, data := PySem.Data.fields #[] }
noncomputable def ob145 (P : PySem.Params) : PySem.Obj :=
  { cls := PySem.Value.type "tuple", data := PySem.Data.seq #[PySem.Value.str (PySem.Str.ofString "view") 309, PySem.Value.str (PySem.Str.ofString "letter") 310] }
noncomputable def ob146 (P : PySem.Params) : PySem.Obj :=
  { cls := PySem.Value.type "tuple", data := PySem.Data.seq #[] }
noncomputable def ob147 (P : PySem.Params) : PySem.Obj :=
  { cls := PySem.Value.none, data := PySem.Data.func { name := PySem.Str.ofString "note", qualname := PySem.Str.ofString "note", params := Mine.dArgs (Mine.at_ Mine.M 5), body := PySem.FuncBody.stmts (Mine.dBody (Mine.at_ Mine.M 5)), scope := Mine.dScope (Mine.at_ Mine.M 5), globals := 0, closure := [], defaults := PySem.Value.none, kwdefaults := PySem.Value.none } }
noncomputable def ob148 (P : PySem.Params) : PySem.Obj :=
  { cls := PySem.Value.type "code", data := PySem.Data.fields #[PySem.Value.str (PySem.Str.ofString "note") 306, PySem.Value.str (PySem.Str.ofString "note") 307, PySem.Value.str (PySem.Str.ofString "/claim/cut.py") 308, PySem.Value.int 38 0, PySem.Value.int 2 0, PySem.Value.int 0 0, PySem.Value.int 0 0, PySem.Value.int 3 0, PySem.Value.ref 103, PySem.Value.bool Bool.true, PySem.Value.int 181 0, PySem.Value.ref 104, PySem.Value.none, PySem.Value.ref 105, PySem.Value.ref 106, PySem.Value.ref 107, PySem.Value.int 311 0, PySem.Value.int 38 0, PySem.Value.str (PySem.Str.ofString "/claim/cut.py") 312] }
noncomputable def ob149 (P : PySem.Params) : PySem.Obj :=
  { cls := PySem.Value.type "function", data := PySem.Data.func { name := PySem.Str.ofString "note", qualname := PySem.Str.ofString "note", params := Mine.dArgs (Mine.at_ Mine.M 5), body := PySem.FuncBody.stmts (Mine.dBody (Mine.at_ Mine.M 5)), scope := Mine.dScope (Mine.at_ Mine.M 5), globals := 3, closure := [], defaults := PySem.Value.none, kwdefaults := PySem.Value.none, pyModule := PySem.Value.str (PySem.Str.ofString "postkeep.view") 232, code := PySem.Value.ref 108 } }
noncomputable def ob150 (P : PySem.Params) : PySem.Obj :=
  { cls := PySem.Value.type "tuple", data := PySem.Data.seq #[] }
noncomputable def ob151 (P : PySem.Params) : PySem.Obj :=
  { cls := PySem.Value.none, data := PySem.Data.fields #[] }
noncomputable def ob152 (P : PySem.Params) : PySem.Obj :=
  { cls := PySem.Value.type "tuple", data := PySem.Data.seq #[PySem.Value.str (PySem.Str.ofString "view") 317, PySem.Value.str (PySem.Str.ofString "uid") 318, PySem.Value.str (PySem.Str.ofString "letter") 319] }
noncomputable def ob153 (P : PySem.Params) : PySem.Obj :=
  { cls := PySem.Value.type "tuple", data := PySem.Data.seq #[] }
noncomputable def ob154 (P : PySem.Params) : PySem.Obj :=
  { cls := PySem.Value.none, data := PySem.Data.func { name := PySem.Str.ofString "keep_silent", qualname := PySem.Str.ofString "keep_silent", params := Mine.dArgs (Mine.at_ Mine.M 6), body := PySem.FuncBody.stmts (Mine.dBody (Mine.at_ Mine.M 6)), scope := Mine.dScope (Mine.at_ Mine.M 6), globals := 0, closure := [], defaults := PySem.Value.none, kwdefaults := PySem.Value.none } }
noncomputable def ob155 (P : PySem.Params) : PySem.Obj :=
  { cls := PySem.Value.type "code", data := PySem.Data.fields #[PySem.Value.str (PySem.Str.ofString "keep_silent") 314, PySem.Value.str (PySem.Str.ofString "keep_silent") 315, PySem.Value.str (PySem.Str.ofString "/claim/cut.py") 316, PySem.Value.int 41 0, PySem.Value.int 2 0, PySem.Value.int 0 0, PySem.Value.int 0 0, PySem.Value.int 3 0, PySem.Value.ref 110, PySem.Value.bool Bool.true, PySem.Value.int 181 0, PySem.Value.ref 111, PySem.Value.none, PySem.Value.ref 112, PySem.Value.ref 113, PySem.Value.ref 114, PySem.Value.int 320 0, PySem.Value.int 41 0, PySem.Value.str (PySem.Str.ofString "/claim/cut.py") 321] }
noncomputable def ob156 (P : PySem.Params) : PySem.Obj :=
  { cls := PySem.Value.type "function", data := PySem.Data.func { name := PySem.Str.ofString "keep_silent", qualname := PySem.Str.ofString "keep_silent", params := Mine.dArgs (Mine.at_ Mine.M 6), body := PySem.FuncBody.stmts (Mine.dBody (Mine.at_ Mine.M 6)), scope := Mine.dScope (Mine.at_ Mine.M 6), globals := 3, closure := [], defaults := PySem.Value.none, kwdefaults := PySem.Value.none, pyModule := PySem.Value.str (PySem.Str.ofString "postkeep.view") 232, code := PySem.Value.ref 115 } }
noncomputable def ob157 (P : PySem.Params) : PySem.Obj :=
  { cls := PySem.Value.type "tuple", data := PySem.Data.seq #[] }
noncomputable def ob158 (P : PySem.Params) : PySem.Obj :=
  { cls := PySem.Value.none, data := PySem.Data.fields #[] }
noncomputable def ob159 (P : PySem.Params) : PySem.Obj :=
  { cls := PySem.Value.type "tuple", data := PySem.Data.seq #[PySem.Value.str (PySem.Str.ofString "view") 326, PySem.Value.str (PySem.Str.ofString "letter") 327] }
noncomputable def ob160 (P : PySem.Params) : PySem.Obj :=
  { cls := PySem.Value.type "tuple", data := PySem.Data.seq #[] }
noncomputable def ob161 (P : PySem.Params) : PySem.Obj :=
  { cls := PySem.Value.none, data := PySem.Data.func { name := PySem.Str.ofString "is_stale", qualname := PySem.Str.ofString "is_stale", params := Mine.dArgs (Mine.at_ Mine.M 7), body := PySem.FuncBody.stmts (Mine.dBody (Mine.at_ Mine.M 7)), scope := Mine.dScope (Mine.at_ Mine.M 7), globals := 0, closure := [], defaults := PySem.Value.none, kwdefaults := PySem.Value.none } }
noncomputable def ob162 (P : PySem.Params) : PySem.Obj :=
  { cls := PySem.Value.type "code", data := PySem.Data.fields #[PySem.Value.str (PySem.Str.ofString "is_stale") 323, PySem.Value.str (PySem.Str.ofString "is_stale") 324, PySem.Value.str (PySem.Str.ofString "/claim/cut.py") 325, PySem.Value.int 45 0, PySem.Value.int 2 0, PySem.Value.int 0 0, PySem.Value.int 0 0, PySem.Value.int 3 0, PySem.Value.ref 117, PySem.Value.bool Bool.true, PySem.Value.int 181 0, PySem.Value.ref 118, PySem.Value.none, PySem.Value.ref 119, PySem.Value.ref 120, PySem.Value.ref 121, PySem.Value.int 328 0, PySem.Value.int 45 0, PySem.Value.str (PySem.Str.ofString "/claim/cut.py") 329] }
noncomputable def ob163 (P : PySem.Params) : PySem.Obj :=
  { cls := PySem.Value.type "function", data := PySem.Data.func { name := PySem.Str.ofString "is_stale", qualname := PySem.Str.ofString "is_stale", params := Mine.dArgs (Mine.at_ Mine.M 7), body := PySem.FuncBody.stmts (Mine.dBody (Mine.at_ Mine.M 7)), scope := Mine.dScope (Mine.at_ Mine.M 7), globals := 3, closure := [], defaults := PySem.Value.none, kwdefaults := PySem.Value.none, pyModule := PySem.Value.str (PySem.Str.ofString "postkeep.view") 232, code := PySem.Value.ref 122 } }
noncomputable def ob164 (P : PySem.Params) : PySem.Obj :=
  { cls := PySem.Value.type "tuple", data := PySem.Data.seq #[] }
noncomputable def ob165 (P : PySem.Params) : PySem.Obj :=
  { cls := PySem.Value.none, data := PySem.Data.fields #[] }
noncomputable def ob166 (P : PySem.Params) : PySem.Obj :=
  { cls := PySem.Value.none, data := PySem.Data.func { name := PySem.Str.ofString "flag_pairs", qualname := PySem.Str.ofString "flag_pairs", params := Mine.dArgs (Mine.at_ Mine.M 8), body := PySem.FuncBody.stmts (Mine.dBody (Mine.at_ Mine.M 8)), scope := Mine.dScope (Mine.at_ Mine.M 8), globals := 0, closure := [], defaults := PySem.Value.none, kwdefaults := PySem.Value.none } }
noncomputable def ob167 (P : PySem.Params) : PySem.Obj :=
  { cls := PySem.Value.type "code", data := PySem.Data.fields #[PySem.Value.str (PySem.Str.ofString "flag_pairs") 331, PySem.Value.str (PySem.Str.ofString "flag_pairs") 332, PySem.Value.str (PySem.Str.ofString "/claim/cut.py") 333, PySem.Value.int 49 0, PySem.Value.int 2 0, PySem.Value.int 0 0, PySem.Value.int 0 0, PySem.Value.int 3 0, PySem.Value.ref 124, PySem.Value.bool Bool.true, PySem.Value.int 181 0, PySem.Value.ref 125, PySem.Value.none, PySem.Value.none, PySem.Value.none, PySem.Value.ref 126, PySem.Value.int 334 0, PySem.Value.int 49 0, PySem.Value.str (PySem.Str.ofString "/claim/cut.py") 335] }
noncomputable def ob168 (P : PySem.Params) : PySem.Obj :=
  { cls := PySem.Value.type "function", data := PySem.Data.func { name := PySem.Str.ofString "flag_pairs", qualname := PySem.Str.ofString "flag_pairs", params := Mine.dArgs (Mine.at_ Mine.M 8), body := PySem.FuncBody.stmts (Mine.dBody (Mine.at_ Mine.M 8)), scope := Mine.dScope (Mine.at_ Mine.M 8), globals := 3, closure := [], defaults := PySem.Value.none, kwdefaults := PySem.Value.none, pyModule := PySem.Value.str (PySem.Str.ofString "postkeep.view") 232, code := PySem.Value.ref 127 } }
noncomputable def ob169 (P : PySem.Params) : PySem.Obj :=
  { cls := PySem.Value.type "tuple", data := PySem.Data.seq #[] }
noncomputable def ob170 (P : PySem.Params) : PySem.Obj :=
  { cls := PySem.Value.none, data := PySem.Data.fields #[] }
noncomputable def ob171 (P : PySem.Params) : PySem.Obj :=
  { cls := PySem.Value.type "tuple", data := PySem.Data.seq #[PySem.Value.str (PySem.Str.ofString "view") 340, PySem.Value.str (PySem.Str.ofString "answers") 341, PySem.Value.str (PySem.Str.ofString "at") 342, PySem.Value.str (PySem.Str.ofString "letter") 343] }
noncomputable def ob172 (P : PySem.Params) : PySem.Obj :=
  { cls := PySem.Value.type "tuple", data := PySem.Data.seq #[] }
noncomputable def ob173 (P : PySem.Params) : PySem.Obj :=
  { cls := PySem.Value.none, data := PySem.Data.func { name := PySem.Str.ofString "flag_news", qualname := PySem.Str.ofString "flag_news", params := Mine.dArgs (Mine.at_ Mine.M 9), body := PySem.FuncBody.stmts (Mine.dBody (Mine.at_ Mine.M 9)), scope := Mine.dScope (Mine.at_ Mine.M 9), globals := 0, closure := [], defaults := PySem.Value.none, kwdefaults := PySem.Value.none } }
noncomputable def ob174 (P : PySem.Params) : PySem.Obj :=
  { cls := PySem.Value.type "code", data := PySem.Data.fields #[PySem.Value.str (PySem.Str.ofString "flag_news") 337, PySem.Value.str (PySem.Str.ofString "flag_news") 338, PySem.Value.str (PySem.Str.ofString "/claim/cut.py") 339, PySem.Value.int 56 0, PySem.Value.int 1 0, PySem.Value.int 0 0, PySem.Value.int 0 0, PySem.Value.int 3 0, PySem.Value.ref 129, PySem.Value.bool Bool.true, PySem.Value.int 181 0, PySem.Value.ref 130, PySem.Value.none, PySem.Value.ref 131, PySem.Value.ref 132, PySem.Value.ref 133, PySem.Value.int 344 0, PySem.Value.int 56 0, PySem.Value.str (PySem.Str.ofString "/claim/cut.py") 345] }
noncomputable def ob175 (P : PySem.Params) : PySem.Obj :=
  { cls := PySem.Value.type "function", data := PySem.Data.func { name := PySem.Str.ofString "flag_news", qualname := PySem.Str.ofString "flag_news", params := Mine.dArgs (Mine.at_ Mine.M 9), body := PySem.FuncBody.stmts (Mine.dBody (Mine.at_ Mine.M 9)), scope := Mine.dScope (Mine.at_ Mine.M 9), globals := 3, closure := [], defaults := PySem.Value.none, kwdefaults := PySem.Value.none, pyModule := PySem.Value.str (PySem.Str.ofString "postkeep.view") 232, code := PySem.Value.ref 134 } }
noncomputable def ob176 (P : PySem.Params) : PySem.Obj :=
  { cls := PySem.Value.type "tuple", data := PySem.Data.seq #[] }
noncomputable def ob177 (P : PySem.Params) : PySem.Obj :=
  { cls := PySem.Value.none, data := PySem.Data.fields #[] }
noncomputable def ob178 (P : PySem.Params) : PySem.Obj :=
  { cls := PySem.Value.none, data := PySem.Data.func { name := PySem.Str.ofString "is_up_to_date", qualname := PySem.Str.ofString "is_up_to_date", params := Mine.dArgs (Mine.at_ Mine.M 10), body := PySem.FuncBody.stmts (Mine.dBody (Mine.at_ Mine.M 10)), scope := Mine.dScope (Mine.at_ Mine.M 10), globals := 0, closure := [], defaults := PySem.Value.none, kwdefaults := PySem.Value.none } }
noncomputable def ob179 (P : PySem.Params) : PySem.Obj :=
  { cls := PySem.Value.type "code", data := PySem.Data.fields #[PySem.Value.str (PySem.Str.ofString "is_up_to_date") 347, PySem.Value.str (PySem.Str.ofString "is_up_to_date") 348, PySem.Value.str (PySem.Str.ofString "/claim/cut.py") 349, PySem.Value.int 64 0, PySem.Value.int 1 0, PySem.Value.int 0 0, PySem.Value.int 0 0, PySem.Value.int 3 0, PySem.Value.ref 136, PySem.Value.bool Bool.true, PySem.Value.int 181 0, PySem.Value.ref 137, PySem.Value.none, PySem.Value.none, PySem.Value.none, PySem.Value.ref 138, PySem.Value.int 350 0, PySem.Value.int 64 0, PySem.Value.str (PySem.Str.ofString "/claim/cut.py") 351] }
noncomputable def ob180 (P : PySem.Params) : PySem.Obj :=
  { cls := PySem.Value.type "function", data := PySem.Data.func { name := PySem.Str.ofString "is_up_to_date", qualname := PySem.Str.ofString "is_up_to_date", params := Mine.dArgs (Mine.at_ Mine.M 10), body := PySem.FuncBody.stmts (Mine.dBody (Mine.at_ Mine.M 10)), scope := Mine.dScope (Mine.at_ Mine.M 10), globals := 3, closure := [], defaults := PySem.Value.none, kwdefaults := PySem.Value.none, pyModule := PySem.Value.str (PySem.Str.ofString "postkeep.view") 232, code := PySem.Value.ref 139 } }
noncomputable def ob181 (P : PySem.Params) : PySem.Obj :=
  { cls := PySem.Value.none, data := PySem.Data.dict #[{ hash := PySem.PyData.keyHash P (PySem.Str.ofString "type.__subclasses__.Exception.0"), key := PySem.Value.str (PySem.Str.ofString "type.__subclasses__.Exception.0") 391, val := PySem.Value.int 165 0 }, { hash := PySem.PyData.keyHash P (PySem.Str.ofString "type.__subclasses__.Exception.n"), key := PySem.Value.str (PySem.Str.ofString "type.__subclasses__.Exception.n") 392, val := PySem.Value.int 1 0 }] 2 }
noncomputable def ob184 (P : PySem.Params) : PySem.Obj :=
  { cls := PySem.Value.type "tuple", data := PySem.Data.seq #[PySem.Value.type "Exception"] }
noncomputable def ob185 (P : PySem.Params) : PySem.Obj :=
  { cls := PySem.Value.type "builtin_function_or_method", data := PySem.Data.fields #[PySem.Value.builtin "type.__prepare__", PySem.Value.type "type"] }
noncomputable def ob186 (P : PySem.Params) : PySem.Obj :=
  { cls := PySem.Value.type "dict", data := PySem.Data.dict #[{ hash := PySem.PyData.keyHash P (PySem.Str.ofString "__module__"), key := PySem.Value.str (PySem.Str.ofString "__module__") 362, val := PySem.Value.str (PySem.Str.ofString "postkeep.errors") 353 }, { hash := PySem.PyData.keyHash P (PySem.Str.ofString "__qualname__"), key := PySem.Value.str (PySem.Str.ofString "__qualname__") 364, val := PySem.Value.str (PySem.Str.ofString "PostError") 363 }, { hash := PySem.PyData.keyHash P (PySem.Str.ofString "__firstlineno__"), key := PySem.Value.str (PySem.Str.ofString "__firstlineno__") 366, val := PySem.Value.int 67 365 }, { hash := PySem.PyData.keyHash P (PySem.Str.ofString "__init__"), key := PySem.Value.str (PySem.Str.ofString "__init__") 377, val := PySem.Value.ref 155 }, { hash := PySem.PyData.keyHash P (PySem.Str.ofString "told"), key := PySem.Value.str (PySem.Str.ofString "told") 384, val := PySem.Value.ref 162 }, { hash := PySem.PyData.keyHash P (PySem.Str.ofString "__static_attributes__"), key := PySem.Value.str (PySem.Str.ofString "__static_attributes__") 387, val := PySem.Value.ref 163 }] 6 }
noncomputable def ob187 (P : PySem.Params) : PySem.Obj :=
  { cls := PySem.Value.type "tuple", data := PySem.Data.seq #[] }
noncomputable def ob188 (P : PySem.Params) : PySem.Obj :=
  { cls := PySem.Value.none, data := PySem.Data.fields #[PySem.Value.int 69 0, PySem.Value.int 4 0, PySem.Value.ref 154, PySem.Value.int 74 0, PySem.Value.int 4 0, PySem.Value.ref 161] }
noncomputable def ob189 (P : PySem.Params) : PySem.Obj :=
  { cls := PySem.Value.type "code", data := PySem.Data.fields #[PySem.Value.str (PySem.Str.ofString "PostError") 357, PySem.Value.str (PySem.Str.ofString "PostError") 358, PySem.Value.str (PySem.Str.ofString "/claim/cut.py") 359, PySem.Value.int 67 0, PySem.Value.int 0 0, PySem.Value.int 0 0, PySem.Value.int 0 0, PySem.Value.int 0 0, PySem.Value.ref 144, PySem.Value.bool Bool.false, PySem.Value.int 181 0, PySem.Value.ref 145, PySem.Value.none, PySem.Value.none, PySem.Value.none, PySem.Value.none, PySem.Value.int 360 0, PySem.Value.int 67 0, PySem.Value.str (PySem.Str.ofString "/claim/cut.py") 361] }
noncomputable def ob190 (P : PySem.Params) : PySem.Obj :=
  { cls := PySem.Value.type "frame", slots := #[Option.some (PySem.Value.ref 146), Option.some (PySem.Value.ref 3), Option.some (PySem.Value.ref 143), Option.none, Option.some (PySem.Value.str (PySem.Str.ofString "postkeep.errors") 353), Option.none, Option.some (PySem.Value.ref 0)] }
noncomputable def ob191 (P : PySem.Params) : PySem.Obj :=
  { cls := PySem.Value.type "tuple", data := PySem.Data.seq #[PySem.Value.int (-1) 368] }
noncomputable def ob192 (P : PySem.Params) : PySem.Obj :=
  { cls := PySem.Value.type "tuple", data := PySem.Data.seq #[] }
noncomputable def ob193 (P : PySem.Params) : PySem.Obj :=
  { cls := PySem.Value.none, data := PySem.Data.fields #[] }
noncomputable def ob194 (P : PySem.Params) : PySem.Obj :=
  { cls := PySem.Value.type "tuple", data := PySem.Data.seq #[PySem.Value.str (PySem.Str.ofString "self") 372, PySem.Value.str (PySem.Str.ofString "what") 373, PySem.Value.str (PySem.Str.ofString "at") 374] }
noncomputable def ob195 (P : PySem.Params) : PySem.Obj :=
  { cls := PySem.Value.type "tuple", data := PySem.Data.seq #[] }
noncomputable def ob196 (P : PySem.Params) : PySem.Obj :=
  { cls := PySem.Value.none, data := PySem.Data.func { name := PySem.Str.ofString "__init__", qualname := PySem.Str.ofString "PostError.__init__", params := Mine.dArgs (Mine.at_ (Mine.dBody (Mine.at_ Mine.M 12)) 0), body := PySem.FuncBody.stmts (Mine.dBody (Mine.at_ (Mine.dBody (Mine.at_ Mine.M 12)) 0)), scope := Mine.dScope (Mine.at_ (Mine.dBody (Mine.at_ Mine.M 12)) 0), globals := 0, closure := [], defaults := PySem.Value.none, kwdefaults := PySem.Value.none } }
noncomputable def ob197 (P : PySem.Params) : PySem.Obj :=
  { cls := PySem.Value.type "code", data := PySem.Data.fields #[PySem.Value.str (PySem.Str.ofString "__init__") 369, PySem.Value.str (PySem.Str.ofString "PostError.__init__") 370, PySem.Value.str (PySem.Str.ofString "/claim/cut.py") 371, PySem.Value.int 69 0, PySem.Value.int 3 0, PySem.Value.int 0 0, PySem.Value.int 0 0, PySem.Value.int 3 0, PySem.Value.ref 149, PySem.Value.bool Bool.true, PySem.Value.int 181 0, PySem.Value.ref 150, PySem.Value.none, PySem.Value.ref 151, PySem.Value.ref 152, PySem.Value.ref 153, PySem.Value.int 375 0, PySem.Value.int 69 0, PySem.Value.str (PySem.Str.ofString "/claim/cut.py") 376] }
noncomputable def ob198 (P : PySem.Params) : PySem.Obj :=
  { cls := PySem.Value.type "function", data := PySem.Data.func { name := PySem.Str.ofString "__init__", qualname := PySem.Str.ofString "PostError.__init__", params := Mine.dArgs (Mine.at_ (Mine.dBody (Mine.at_ Mine.M 12)) 0), body := PySem.FuncBody.stmts (Mine.dBody (Mine.at_ (Mine.dBody (Mine.at_ Mine.M 12)) 0)), scope := Mine.dScope (Mine.at_ (Mine.dBody (Mine.at_ Mine.M 12)) 0), globals := 3, closure := [], defaults := PySem.Value.ref 148, kwdefaults := PySem.Value.none, pyModule := PySem.Value.str (PySem.Str.ofString "postkeep.errors") 353, code := PySem.Value.ref 154 } }
noncomputable def ob199 (P : PySem.Params) : PySem.Obj :=
  { cls := PySem.Value.type "tuple", data := PySem.Data.seq #[] }
noncomputable def ob200 (P : PySem.Params) : PySem.Obj :=
  { cls := PySem.Value.none, data := PySem.Data.fields #[] }
noncomputable def ob201 (P : PySem.Params) : PySem.Obj :=
  { cls := PySem.Value.type "tuple", data := PySem.Data.seq #[PySem.Value.str (PySem.Str.ofString "self") 381] }
noncomputable def ob202 (P : PySem.Params) : PySem.Obj :=
  { cls := PySem.Value.type "tuple", data := PySem.Data.seq #[] }
noncomputable def ob203 (P : PySem.Params) : PySem.Obj :=
  { cls := PySem.Value.none, data := PySem.Data.func { name := PySem.Str.ofString "told", qualname := PySem.Str.ofString "PostError.told", params := Mine.dArgs (Mine.at_ (Mine.dBody (Mine.at_ Mine.M 12)) 1), body := PySem.FuncBody.stmts (Mine.dBody (Mine.at_ (Mine.dBody (Mine.at_ Mine.M 12)) 1)), scope := Mine.dScope (Mine.at_ (Mine.dBody (Mine.at_ Mine.M 12)) 1), globals := 0, closure := [], defaults := PySem.Value.none, kwdefaults := PySem.Value.none } }
noncomputable def ob204 (P : PySem.Params) : PySem.Obj :=
  { cls := PySem.Value.type "code", data := PySem.Data.fields #[PySem.Value.str (PySem.Str.ofString "told") 378, PySem.Value.str (PySem.Str.ofString "PostError.told") 379, PySem.Value.str (PySem.Str.ofString "/claim/cut.py") 380, PySem.Value.int 74 0, PySem.Value.int 1 0, PySem.Value.int 0 0, PySem.Value.int 0 0, PySem.Value.int 3 0, PySem.Value.ref 156, PySem.Value.bool Bool.true, PySem.Value.int 181 0, PySem.Value.ref 157, PySem.Value.none, PySem.Value.ref 158, PySem.Value.ref 159, PySem.Value.ref 160, PySem.Value.int 382 0, PySem.Value.int 74 0, PySem.Value.str (PySem.Str.ofString "/claim/cut.py") 383] }
noncomputable def ob205 (P : PySem.Params) : PySem.Obj :=
  { cls := PySem.Value.type "function", data := PySem.Data.func { name := PySem.Str.ofString "told", qualname := PySem.Str.ofString "PostError.told", params := Mine.dArgs (Mine.at_ (Mine.dBody (Mine.at_ Mine.M 12)) 1), body := PySem.FuncBody.stmts (Mine.dBody (Mine.at_ (Mine.dBody (Mine.at_ Mine.M 12)) 1)), scope := Mine.dScope (Mine.at_ (Mine.dBody (Mine.at_ Mine.M 12)) 1), globals := 3, closure := [], defaults := PySem.Value.none, kwdefaults := PySem.Value.none, pyModule := PySem.Value.str (PySem.Str.ofString "postkeep.errors") 353, code := PySem.Value.ref 161 } }
noncomputable def ob206 (P : PySem.Params) : PySem.Obj :=
  { cls := PySem.Value.type "tuple", data := PySem.Data.seq #[PySem.Value.str (PySem.Str.ofString "at") 385, PySem.Value.str (PySem.Str.ofString "what") 386] }
noncomputable def ob207 (P : PySem.Params) : PySem.Obj :=
  { cls := PySem.Value.type "dict", data := PySem.Data.dict #[{ hash := PySem.PyData.keyHash P (PySem.Str.ofString "__module__"), key := PySem.Value.str (PySem.Str.ofString "__module__") 362, val := PySem.Value.str (PySem.Str.ofString "postkeep.errors") 353 }, { hash := PySem.PyData.keyHash P (PySem.Str.ofString "__firstlineno__"), key := PySem.Value.str (PySem.Str.ofString "__firstlineno__") 366, val := PySem.Value.int 67 365 }, { hash := PySem.PyData.keyHash P (PySem.Str.ofString "__init__"), key := PySem.Value.str (PySem.Str.ofString "__init__") 377, val := PySem.Value.ref 155 }, { hash := PySem.PyData.keyHash P (PySem.Str.ofString "told"), key := PySem.Value.str (PySem.Str.ofString "told") 384, val := PySem.Value.ref 162 }, { hash := PySem.PyData.keyHash P (PySem.Str.ofString "__static_attributes__"), key := PySem.Value.str (PySem.Str.ofString "__static_attributes__") 387, val := PySem.Value.ref 163 }, { hash := PySem.PyData.keyHash P (PySem.Str.ofString "__weakref__"), key := PySem.Value.str (PySem.Str.ofString "__weakref__") 389, val := PySem.Value.ref 166 }, { hash := PySem.PyData.keyHash P (PySem.Str.ofString "__doc__"), key := PySem.Value.str (PySem.Str.ofString "__doc__") 390, val := PySem.Value.none }] 3 }
noncomputable def ob209 (P : PySem.Params) : PySem.Obj :=
  { cls := PySem.Value.type "getset_descriptor", data := PySem.Data.fields #[PySem.Value.str (PySem.Str.ofString "__weakref__") 388, PySem.Value.ref 165, PySem.Value.builtin "ExceptionGroup.__weakref__", PySem.Value.none] }
noncomputable def ob210 (P : PySem.Params) : PySem.Obj :=
  { cls := PySem.Value.type "super", data := PySem.Data.fields #[PySem.Value.ref 165, PySem.Value.ref 165, PySem.Value.ref 165] }
noncomputable def ob211 (P : PySem.Params) : PySem.Obj :=
  { cls := PySem.Value.type "builtin_function_or_method", data := PySem.Data.fields #[PySem.Value.builtin "object.__init_subclass__", PySem.Value.ref 165] }
noncomputable def ob212 (P : PySem.Params) : PySem.Obj :=
  { cls := PySem.Value.type "dict", data := PySem.Data.dict #[{ hash := PySem.PyData.keyHash P (PySem.Str.ofString "__name__"), key := PySem.Value.str (PySem.Str.ofString "__name__") 165, val := PySem.Value.str (PySem.Str.ofString "postkeep.boxes") 411 }, { hash := PySem.PyData.keyHash P (PySem.Str.ofString "__doc__"), key := PySem.Value.str (PySem.Str.ofString "__doc__") 166, val := PySem.Value.none }, { hash := PySem.PyData.keyHash P (PySem.Str.ofString "__package__"), key := PySem.Value.str (PySem.Str.ofString "__package__") 167, val := PySem.Value.none }, { hash := PySem.PyData.keyHash P (PySem.Str.ofString "__loader__"), key := PySem.Value.str (PySem.Str.ofString "__loader__") 168, val := PySem.Value.builtin "__main__.__loader__#opaque" }, { hash := PySem.PyData.keyHash P (PySem.Str.ofString "__spec__"), key := PySem.Value.str (PySem.Str.ofString "__spec__") 169, val := PySem.Value.none }, { hash := PySem.PyData.keyHash P (PySem.Str.ofString "__annotations__"), key := PySem.Value.str (PySem.Str.ofString "__annotations__") 170, val := PySem.Value.ref 6 }, { hash := PySem.PyData.keyHash P (PySem.Str.ofString "__builtins__"), key := PySem.Value.str (PySem.Str.ofString "__builtins__") 171, val := PySem.Value.ref 4 }, { hash := PySem.PyData.keyHash P (PySem.Str.ofString "__file__"), key := PySem.Value.str (PySem.Str.ofString "__file__") 173, val := PySem.Value.str (PySem.Str.ofString "/claim/cut.py") 172 }, { hash := PySem.PyData.keyHash P (PySem.Str.ofString "__cached__"), key := PySem.Value.str (PySem.Str.ofString "__cached__") 174, val := PySem.Value.none }, { hash := PySem.PyData.keyHash P (PySem.Str.ofString "_wall"), key := PySem.Value.str (PySem.Str.ofString "_wall") 193, val := PySem.Value.ref 21 }, { hash := PySem.PyData.keyHash P (PySem.Str.ofString "Atom"), key := PySem.Value.str (PySem.Str.ofString "Atom") 231, val := PySem.Value.ref 45 }, { hash := PySem.PyData.keyHash P (PySem.Str.ofString "View"), key := PySem.Value.str (PySem.Str.ofString "View") 305, val := PySem.Value.ref 98 }, { hash := PySem.PyData.keyHash P (PySem.Str.ofString "note"), key := PySem.Value.str (PySem.Str.ofString "note") 313, val := PySem.Value.ref 109 }, { hash := PySem.PyData.keyHash P (PySem.Str.ofString "keep_silent"), key := PySem.Value.str (PySem.Str.ofString "keep_silent") 322, val := PySem.Value.ref 116 }, { hash := PySem.PyData.keyHash P (PySem.Str.ofString "is_stale"), key := PySem.Value.str (PySem.Str.ofString "is_stale") 330, val := PySem.Value.ref 123 }, { hash := PySem.PyData.keyHash P (PySem.Str.ofString "flag_pairs"), key := PySem.Value.str (PySem.Str.ofString "flag_pairs") 336, val := PySem.Value.ref 128 }, { hash := PySem.PyData.keyHash P (PySem.Str.ofString "flag_news"), key := PySem.Value.str (PySem.Str.ofString "flag_news") 346, val := PySem.Value.ref 135 }, { hash := PySem.PyData.keyHash P (PySem.Str.ofString "is_up_to_date"), key := PySem.Value.str (PySem.Str.ofString "is_up_to_date") 352, val := PySem.Value.ref 140 }, { hash := PySem.PyData.keyHash P (PySem.Str.ofString "PostError"), key := PySem.Value.str (PySem.Str.ofString "PostError") 394, val := PySem.Value.ref 165 }, { hash := PySem.PyData.keyHash P (PySem.Str.ofString "StoreFault"), key := PySem.Value.str (PySem.Str.ofString "StoreFault") 410, val := PySem.Value.ref 178 }, { hash := PySem.PyData.keyHash P (PySem.Str.ofString "SYSTEM"), key := PySem.Value.str (PySem.Str.ofString "SYSTEM") 414, val := PySem.Value.str (PySem.Str.ofString "\\Seen \\Answered \\Flagged \\Deleted \\Draft") 413 }, { hash := PySem.PyData.keyHash P (PySem.Str.ofString "NO_KEYWORD"), key := PySem.Value.str (PySem.Str.ofString "NO_KEYWORD") 416, val := PySem.Value.str (PySem.Str.ofString "(){ %*\"\\]") 415 }, { hash := PySem.PyData.keyHash P (PySem.Str.ofString "MOST_KEYWORD"), key := PySem.Value.str (PySem.Str.ofString "MOST_KEYWORD") 418, val := PySem.Value.int 60 417 }, { hash := PySem.PyData.keyHash P (PySem.Str.ofString "system_flags"), key := PySem.Value.str (PySem.Str.ofString "system_flags") 424, val := PySem.Value.ref 187 }, { hash := PySem.PyData.keyHash P (PySem.Str.ofString "is_keyword"), key := PySem.Value.str (PySem.Str.ofString "is_keyword") 432, val := PySem.Value.ref 194 }, { hash := PySem.PyData.keyHash P (PySem.Str.ofString "flag_name"), key := PySem.Value.str (PySem.Str.ofString "flag_name") 440, val := PySem.Value.ref 201 }, { hash := PySem.PyData.keyHash P (PySem.Str.ofString "flag_tuple"), key := PySem.Value.str (PySem.Str.ofString "flag_tuple") 450, val := PySem.Value.ref 208 }] 27 }
noncomputable def ob213 (P : PySem.Params) : PySem.Obj :=
  { cls := PySem.Value.none, data := PySem.Data.fields #[PySem.Value.int 1 0, PySem.Value.int 0 0, PySem.Value.ref 20, PySem.Value.int 5 0, PySem.Value.int 0 0, PySem.Value.ref 27, PySem.Value.int 13 0, PySem.Value.int 0 0, PySem.Value.ref 55, PySem.Value.int 38 0, PySem.Value.int 0 0, PySem.Value.ref 108, PySem.Value.int 41 0, PySem.Value.int 0 0, PySem.Value.ref 115, PySem.Value.int 45 0, PySem.Value.int 0 0, PySem.Value.ref 122, PySem.Value.int 49 0, PySem.Value.int 0 0, PySem.Value.ref 127, PySem.Value.int 56 0, PySem.Value.int 0 0, PySem.Value.ref 134, PySem.Value.int 64 0, PySem.Value.int 0 0, PySem.Value.ref 139, PySem.Value.int 67 0, PySem.Value.int 0 0, PySem.Value.ref 146, PySem.Value.int 76 0, PySem.Value.int 0 0, PySem.Value.ref 174, PySem.Value.int 82 0, PySem.Value.int 0 0, PySem.Value.ref 186, PySem.Value.int 84 0, PySem.Value.int 0 0, PySem.Value.ref 193, PySem.Value.int 91 0, PySem.Value.int 0 0, PySem.Value.ref 200, PySem.Value.int 98 0, PySem.Value.int 0 0, PySem.Value.ref 207] }
noncomputable def ob214 (P : PySem.Params) : PySem.Obj :=
  { cls := PySem.Value.type "type", data := PySem.Data.cls { name := PySem.Str.ofString "PostError", bases := [PySem.Value.type "Exception"], mro := [PySem.Value.ref 165, PySem.Value.type "Exception", PySem.Value.type "BaseException", PySem.Value.type "object"], ns := 164, qualname := PySem.Str.ofString "PostError", subclasses := [PySem.Value.ref 178] }, slots := #[Option.some (PySem.Value.ref 141), Option.none, Option.some (PySem.Value.str (PySem.Str.ofString "PostError") 355), Option.some (PySem.Value.str (PySem.Str.ofString "PostError") 363), Option.some (PySem.Value.builtin "Exception.__new__"), Option.some (PySem.Value.bool Bool.true)] }
noncomputable def ob215 (P : PySem.Params) : PySem.Obj :=
  { cls := PySem.Value.type "tuple", data := PySem.Data.seq #[PySem.Value.ref 165] }
noncomputable def ob216 (P : PySem.Params) : PySem.Obj :=
  { cls := PySem.Value.type "builtin_function_or_method", data := PySem.Data.fields #[PySem.Value.builtin "type.__prepare__", PySem.Value.type "type"] }
noncomputable def ob217 (P : PySem.Params) : PySem.Obj :=
  { cls := PySem.Value.type "dict", data := PySem.Data.dict #[{ hash := PySem.PyData.keyHash P (PySem.Str.ofString "__module__"), key := PySem.Value.str (PySem.Str.ofString "__module__") 402, val := PySem.Value.str (PySem.Str.ofString "postkeep.errors") 353 }, { hash := PySem.PyData.keyHash P (PySem.Str.ofString "__qualname__"), key := PySem.Value.str (PySem.Str.ofString "__qualname__") 404, val := PySem.Value.str (PySem.Str.ofString "StoreFault") 403 }, { hash := PySem.PyData.keyHash P (PySem.Str.ofString "__firstlineno__"), key := PySem.Value.str (PySem.Str.ofString "__firstlineno__") 406, val := PySem.Value.int 76 405 }, { hash := PySem.PyData.keyHash P (PySem.Str.ofString "__static_attributes__"), key := PySem.Value.str (PySem.Str.ofString "__static_attributes__") 407, val := PySem.Value.ref 176 }] 4 }
noncomputable def ob218 (P : PySem.Params) : PySem.Obj :=
  { cls := PySem.Value.type "tuple", data := PySem.Data.seq #[] }
noncomputable def ob219 (P : PySem.Params) : PySem.Obj :=
  { cls := PySem.Value.none, data := PySem.Data.fields #[] }
noncomputable def ob220 (P : PySem.Params) : PySem.Obj :=
  { cls := PySem.Value.type "code", data := PySem.Data.fields #[PySem.Value.str (PySem.Str.ofString "StoreFault") 397, PySem.Value.str (PySem.Str.ofString "StoreFault") 398, PySem.Value.str (PySem.Str.ofString "/claim/cut.py") 399, PySem.Value.int 76 0, PySem.Value.int 0 0, PySem.Value.int 0 0, PySem.Value.int 0 0, PySem.Value.int 0 0, PySem.Value.ref 172, PySem.Value.bool Bool.false, PySem.Value.int 181 0, PySem.Value.ref 173, PySem.Value.none, PySem.Value.none, PySem.Value.none, PySem.Value.none, PySem.Value.int 400 0, PySem.Value.int 76 0, PySem.Value.str (PySem.Str.ofString "/claim/cut.py") 401] }
noncomputable def ob221 (P : PySem.Params) : PySem.Obj :=
  { cls := PySem.Value.type "frame", slots := #[Option.some (PySem.Value.ref 174), Option.some (PySem.Value.ref 3), Option.some (PySem.Value.ref 171), Option.none, Option.some (PySem.Value.str (PySem.Str.ofString "postkeep.errors") 353), Option.none, Option.some (PySem.Value.ref 0)] }
noncomputable def ob222 (P : PySem.Params) : PySem.Obj :=
  { cls := PySem.Value.type "tuple", data := PySem.Data.seq #[] }
noncomputable def ob223 (P : PySem.Params) : PySem.Obj :=
  { cls := PySem.Value.type "dict", data := PySem.Data.dict #[{ hash := PySem.PyData.keyHash P (PySem.Str.ofString "__module__"), key := PySem.Value.str (PySem.Str.ofString "__module__") 402, val := PySem.Value.str (PySem.Str.ofString "postkeep.errors") 353 }, { hash := PySem.PyData.keyHash P (PySem.Str.ofString "__firstlineno__"), key := PySem.Value.str (PySem.Str.ofString "__firstlineno__") 406, val := PySem.Value.int 76 405 }, { hash := PySem.PyData.keyHash P (PySem.Str.ofString "__static_attributes__"), key := PySem.Value.str (PySem.Str.ofString "__static_attributes__") 407, val := PySem.Value.ref 176 }, { hash := PySem.PyData.keyHash P (PySem.Str.ofString "__doc__"), key := PySem.Value.str (PySem.Str.ofString "__doc__") 408, val := PySem.Value.none }] 2 }
noncomputable def ob224 (P : PySem.Params) : PySem.Obj :=
  { cls := PySem.Value.type "type", data := PySem.Data.cls { name := PySem.Str.ofString "StoreFault", bases := [PySem.Value.ref 165], mro := [PySem.Value.ref 178, PySem.Value.ref 165, PySem.Value.type "Exception", PySem.Value.type "BaseException", PySem.Value.type "object"], ns := 177, qualname := PySem.Str.ofString "StoreFault" }, slots := #[Option.some (PySem.Value.ref 169), Option.none, Option.some (PySem.Value.str (PySem.Str.ofString "StoreFault") 395), Option.some (PySem.Value.str (PySem.Str.ofString "StoreFault") 403), Option.some (PySem.Value.builtin "Exception.__new__"), Option.some (PySem.Value.bool Bool.true)] }
noncomputable def ob225 (P : PySem.Params) : PySem.Obj :=
  { cls := PySem.Value.type "super", data := PySem.Data.fields #[PySem.Value.ref 178, PySem.Value.ref 178, PySem.Value.ref 178] }
noncomputable def ob226 (P : PySem.Params) : PySem.Obj :=
  { cls := PySem.Value.type "builtin_function_or_method", data := PySem.Data.fields #[PySem.Value.builtin "object.__init_subclass__", PySem.Value.ref 178] }
noncomputable def ob227 (P : PySem.Params) : PySem.Obj :=
  { cls := PySem.Value.type "tuple", data := PySem.Data.seq #[] }
noncomputable def ob228 (P : PySem.Params) : PySem.Obj :=
  { cls := PySem.Value.none, data := PySem.Data.fields #[] }
noncomputable def ob229 (P : PySem.Params) : PySem.Obj :=
  { cls := PySem.Value.type "tuple", data := PySem.Data.seq #[] }
noncomputable def ob230 (P : PySem.Params) : PySem.Obj :=
  { cls := PySem.Value.type "tuple", data := PySem.Data.seq #[] }
noncomputable def ob231 (P : PySem.Params) : PySem.Obj :=
  { cls := PySem.Value.none, data := PySem.Data.func { name := PySem.Str.ofString "system_flags", qualname := PySem.Str.ofString "system_flags", params := Mine.dArgs (Mine.at_ Mine.M 18), body := PySem.FuncBody.stmts (Mine.dBody (Mine.at_ Mine.M 18)), scope := Mine.dScope (Mine.at_ Mine.M 18), globals := 0, closure := [], defaults := PySem.Value.none, kwdefaults := PySem.Value.none } }
noncomputable def ob232 (P : PySem.Params) : PySem.Obj :=
  { cls := PySem.Value.type "code", data := PySem.Data.fields #[PySem.Value.str (PySem.Str.ofString "system_flags") 419, PySem.Value.str (PySem.Str.ofString "system_flags") 420, PySem.Value.str (PySem.Str.ofString "/claim/cut.py") 421, PySem.Value.int 82 0, PySem.Value.int 0 0, PySem.Value.int 0 0, PySem.Value.int 0 0, PySem.Value.int 3 0, PySem.Value.ref 181, PySem.Value.bool Bool.true, PySem.Value.int 181 0, PySem.Value.ref 182, PySem.Value.none, PySem.Value.ref 183, PySem.Value.ref 184, PySem.Value.ref 185, PySem.Value.int 422 0, PySem.Value.int 82 0, PySem.Value.str (PySem.Str.ofString "/claim/cut.py") 423] }
noncomputable def ob233 (P : PySem.Params) : PySem.Obj :=
  { cls := PySem.Value.type "function", data := PySem.Data.func { name := PySem.Str.ofString "system_flags", qualname := PySem.Str.ofString "system_flags", params := Mine.dArgs (Mine.at_ Mine.M 18), body := PySem.FuncBody.stmts (Mine.dBody (Mine.at_ Mine.M 18)), scope := Mine.dScope (Mine.at_ Mine.M 18), globals := 3, closure := [], defaults := PySem.Value.none, kwdefaults := PySem.Value.none, pyModule := PySem.Value.str (PySem.Str.ofString "postkeep.boxes") 411, code := PySem.Value.ref 186 } }
noncomputable def ob234 (P : PySem.Params) : PySem.Obj :=
  { cls := PySem.Value.type "tuple", data := PySem.Data.seq #[] }
noncomputable def ob235 (P : PySem.Params) : PySem.Obj :=
  { cls := PySem.Value.none, data := PySem.Data.fields #[] }
noncomputable def ob236 (P : PySem.Params) : PySem.Obj :=
  { cls := PySem.Value.type "tuple", data := PySem.Data.seq #[PySem.Value.str (PySem.Str.ofString "text") 428, PySem.Value.str (PySem.Str.ofString "sign") 429] }
noncomputable def ob237 (P : PySem.Params) : PySem.Obj :=
  { cls := PySem.Value.type "tuple", data := PySem.Data.seq #[] }
noncomputable def ob238 (P : PySem.Params) : PySem.Obj :=
  { cls := PySem.Value.none, data := PySem.Data.func { name := PySem.Str.ofString "is_keyword", qualname := PySem.Str.ofString "is_keyword", params := Mine.dArgs (Mine.at_ Mine.M 19), body := PySem.FuncBody.stmts (Mine.dBody (Mine.at_ Mine.M 19)), scope := Mine.dScope (Mine.at_ Mine.M 19), globals := 0, closure := [], defaults := PySem.Value.none, kwdefaults := PySem.Value.none } }
noncomputable def ob239 (P : PySem.Params) : PySem.Obj :=
  { cls := PySem.Value.type "code", data := PySem.Data.fields #[PySem.Value.str (PySem.Str.ofString "is_keyword") 425, PySem.Value.str (PySem.Str.ofString "is_keyword") 426, PySem.Value.str (PySem.Str.ofString "/claim/cut.py") 427, PySem.Value.int 84 0, PySem.Value.int 1 0, PySem.Value.int 0 0, PySem.Value.int 0 0, PySem.Value.int 3 0, PySem.Value.ref 188, PySem.Value.bool Bool.true, PySem.Value.int 181 0, PySem.Value.ref 189, PySem.Value.none, PySem.Value.ref 190, PySem.Value.ref 191, PySem.Value.ref 192, PySem.Value.int 430 0, PySem.Value.int 84 0, PySem.Value.str (PySem.Str.ofString "/claim/cut.py") 431] }
noncomputable def ob240 (P : PySem.Params) : PySem.Obj :=
  { cls := PySem.Value.type "function", data := PySem.Data.func { name := PySem.Str.ofString "is_keyword", qualname := PySem.Str.ofString "is_keyword", params := Mine.dArgs (Mine.at_ Mine.M 19), body := PySem.FuncBody.stmts (Mine.dBody (Mine.at_ Mine.M 19)), scope := Mine.dScope (Mine.at_ Mine.M 19), globals := 3, closure := [], defaults := PySem.Value.none, kwdefaults := PySem.Value.none, pyModule := PySem.Value.str (PySem.Str.ofString "postkeep.boxes") 411, code := PySem.Value.ref 193 } }
noncomputable def ob241 (P : PySem.Params) : PySem.Obj :=
  { cls := PySem.Value.type "tuple", data := PySem.Data.seq #[] }
noncomputable def ob242 (P : PySem.Params) : PySem.Obj :=
  { cls := PySem.Value.none, data := PySem.Data.fields #[] }
noncomputable def ob243 (P : PySem.Params) : PySem.Obj :=
  { cls := PySem.Value.type "tuple", data := PySem.Data.seq #[PySem.Value.str (PySem.Str.ofString "text") 436, PySem.Value.str (PySem.Str.ofString "name") 437] }
noncomputable def ob244 (P : PySem.Params) : PySem.Obj :=
  { cls := PySem.Value.type "tuple", data := PySem.Data.seq #[] }
noncomputable def ob245 (P : PySem.Params) : PySem.Obj :=
  { cls := PySem.Value.none, data := PySem.Data.func { name := PySem.Str.ofString "flag_name", qualname := PySem.Str.ofString "flag_name", params := Mine.dArgs (Mine.at_ Mine.M 20), body := PySem.FuncBody.stmts (Mine.dBody (Mine.at_ Mine.M 20)), scope := Mine.dScope (Mine.at_ Mine.M 20), globals := 0, closure := [], defaults := PySem.Value.none, kwdefaults := PySem.Value.none } }
noncomputable def ob246 (P : PySem.Params) : PySem.Obj :=
  { cls := PySem.Value.type "code", data := PySem.Data.fields #[PySem.Value.str (PySem.Str.ofString "flag_name") 433, PySem.Value.str (PySem.Str.ofString "flag_name") 434, PySem.Value.str (PySem.Str.ofString "/claim/cut.py") 435, PySem.Value.int 91 0, PySem.Value.int 1 0, PySem.Value.int 0 0, PySem.Value.int 0 0, PySem.Value.int 3 0, PySem.Value.ref 195, PySem.Value.bool Bool.true, PySem.Value.int 181 0, PySem.Value.ref 196, PySem.Value.none, PySem.Value.ref 197, PySem.Value.ref 198, PySem.Value.ref 199, PySem.Value.int 438 0, PySem.Value.int 91 0, PySem.Value.str (PySem.Str.ofString "/claim/cut.py") 439] }
noncomputable def ob247 (P : PySem.Params) : PySem.Obj :=
  { cls := PySem.Value.type "function", data := PySem.Data.func { name := PySem.Str.ofString "flag_name", qualname := PySem.Str.ofString "flag_name", params := Mine.dArgs (Mine.at_ Mine.M 20), body := PySem.FuncBody.stmts (Mine.dBody (Mine.at_ Mine.M 20)), scope := Mine.dScope (Mine.at_ Mine.M 20), globals := 3, closure := [], defaults := PySem.Value.none, kwdefaults := PySem.Value.none, pyModule := PySem.Value.str (PySem.Str.ofString "postkeep.boxes") 411, code := PySem.Value.ref 200 } }
noncomputable def ob248 (P : PySem.Params) : PySem.Obj :=
  { cls := PySem.Value.type "tuple", data := PySem.Data.seq #[] }
noncomputable def ob249 (P : PySem.Params) : PySem.Obj :=
  { cls := PySem.Value.none, data := PySem.Data.fields #[] }
noncomputable def ob250 (P : PySem.Params) : PySem.Obj :=
  { cls := PySem.Value.type "tuple", data := PySem.Data.seq #[PySem.Value.str (PySem.Str.ofString "flags") 444, PySem.Value.str (PySem.Str.ofString "found") 445, PySem.Value.str (PySem.Str.ofString "text") 446, PySem.Value.str (PySem.Str.ofString "name") 447] }
noncomputable def ob251 (P : PySem.Params) : PySem.Obj :=
  { cls := PySem.Value.type "tuple", data := PySem.Data.seq #[] }
noncomputable def ob252 (P : PySem.Params) : PySem.Obj :=
  { cls := PySem.Value.none, data := PySem.Data.func { name := PySem.Str.ofString "flag_tuple", qualname := PySem.Str.ofString "flag_tuple", params := Mine.dArgs (Mine.at_ Mine.M 21), body := PySem.FuncBody.stmts (Mine.dBody (Mine.at_ Mine.M 21)), scope := Mine.dScope (Mine.at_ Mine.M 21), globals := 0, closure := [], defaults := PySem.Value.none, kwdefaults := PySem.Value.none } }
noncomputable def ob253 (P : PySem.Params) : PySem.Obj :=
  { cls := PySem.Value.type "code", data := PySem.Data.fields #[PySem.Value.str (PySem.Str.ofString "flag_tuple") 441, PySem.Value.str (PySem.Str.ofString "flag_tuple") 442, PySem.Value.str (PySem.Str.ofString "/claim/cut.py") 443, PySem.Value.int 98 0, PySem.Value.int 1 0, PySem.Value.int 0 0, PySem.Value.int 0 0, PySem.Value.int 3 0, PySem.Value.ref 202, PySem.Value.bool Bool.true, PySem.Value.int 181 0, PySem.Value.ref 203, PySem.Value.none, PySem.Value.ref 204, PySem.Value.ref 205, PySem.Value.ref 206, PySem.Value.int 448 0, PySem.Value.int 98 0, PySem.Value.str (PySem.Str.ofString "/claim/cut.py") 449] }
noncomputable def ob254 (P : PySem.Params) : PySem.Obj :=
  { cls := PySem.Value.type "function", data := PySem.Data.func { name := PySem.Str.ofString "flag_tuple", qualname := PySem.Str.ofString "flag_tuple", params := Mine.dArgs (Mine.at_ Mine.M 21), body := PySem.FuncBody.stmts (Mine.dBody (Mine.at_ Mine.M 21)), scope := Mine.dScope (Mine.at_ Mine.M 21), globals := 3, closure := [], defaults := PySem.Value.none, kwdefaults := PySem.Value.none, pyModule := PySem.Value.str (PySem.Str.ofString "postkeep.boxes") 411, code := PySem.Value.ref 207 } }
noncomputable def ob257 (P : PySem.Params) : PySem.Obj :=
  { cls := PySem.Value.type "tuple", data := PySem.Data.seq #[] }
noncomputable def ob258 (P : PySem.Params) : PySem.Obj :=
  { cls := PySem.Value.type "builtin_function_or_method", data := PySem.Data.fields #[PySem.Value.builtin "type.__prepare__", PySem.Value.type "type"] }
noncomputable def ob259 (P : PySem.Params) : PySem.Obj :=
  { cls := PySem.Value.type "dict", data := PySem.Data.dict #[{ hash := PySem.PyData.keyHash P (PySem.Str.ofString "__module__"), key := PySem.Value.str (PySem.Str.ofString "__module__") 458, val := PySem.Value.str (PySem.Str.ofString "postkeep.boxes") 411 }, { hash := PySem.PyData.keyHash P (PySem.Str.ofString "__qualname__"), key := PySem.Value.str (PySem.Str.ofString "__qualname__") 460, val := PySem.Value.str (PySem.Str.ofString "Letter") 459 }, { hash := PySem.PyData.keyHash P (PySem.Str.ofString "__firstlineno__"), key := PySem.Value.str (PySem.Str.ofString "__firstlineno__") 462, val := PySem.Value.int 105 461 }, { hash := PySem.PyData.keyHash P (PySem.Str.ofString "__init__"), key := PySem.Value.str (PySem.Str.ofString "__init__") 474, val := PySem.Value.ref 222 }, { hash := PySem.PyData.keyHash P (PySem.Str.ofString "has"), key := PySem.Value.str (PySem.Str.ofString "has") 482, val := PySem.Value.ref 229 }, { hash := PySem.PyData.keyHash P (PySem.Str.ofString "told"), key := PySem.Value.str (PySem.Str.ofString "told") 489, val := PySem.Value.ref 236 }, { hash := PySem.PyData.keyHash P (PySem.Str.ofString "__static_attributes__"), key := PySem.Value.str (PySem.Str.ofString "__static_attributes__") 495, val := PySem.Value.ref 237 }] 7 }
noncomputable def ob260 (P : PySem.Params) : PySem.Obj :=
  { cls := PySem.Value.type "tuple", data := PySem.Data.seq #[] }
noncomputable def ob261 (P : PySem.Params) : PySem.Obj :=
  { cls := PySem.Value.none, data := PySem.Data.fields #[PySem.Value.int 107 0, PySem.Value.int 4 0, PySem.Value.ref 221, PySem.Value.int 114 0, PySem.Value.int 4 0, PySem.Value.ref 228, PySem.Value.int 117 0, PySem.Value.int 4 0, PySem.Value.ref 235] }
noncomputable def ob262 (P : PySem.Params) : PySem.Obj :=
  { cls := PySem.Value.type "code", data := PySem.Data.fields #[PySem.Value.str (PySem.Str.ofString "Letter") 453, PySem.Value.str (PySem.Str.ofString "Letter") 454, PySem.Value.str (PySem.Str.ofString "/claim/cut.py") 455, PySem.Value.int 105 0, PySem.Value.int 0 0, PySem.Value.int 0 0, PySem.Value.int 0 0, PySem.Value.int 0 0, PySem.Value.ref 212, PySem.Value.bool Bool.false, PySem.Value.int 181 0, PySem.Value.ref 213, PySem.Value.none, PySem.Value.none, PySem.Value.none, PySem.Value.none, PySem.Value.int 456 0, PySem.Value.int 105 0, PySem.Value.str (PySem.Str.ofString "/claim/cut.py") 457] }
noncomputable def ob263 (P : PySem.Params) : PySem.Obj :=
  { cls := PySem.Value.type "frame", slots := #[Option.some (PySem.Value.ref 214), Option.some (PySem.Value.ref 3), Option.some (PySem.Value.ref 211), Option.none, Option.some (PySem.Value.str (PySem.Str.ofString "postkeep.boxes") 411), Option.none, Option.some (PySem.Value.ref 0)] }
noncomputable def ob264 (P : PySem.Params) : PySem.Obj :=
  { cls := PySem.Value.type "tuple", data := PySem.Data.seq #[] }
noncomputable def ob265 (P : PySem.Params) : PySem.Obj :=
  { cls := PySem.Value.none, data := PySem.Data.fields #[] }
noncomputable def ob266 (P : PySem.Params) : PySem.Obj :=
  { cls := PySem.Value.type "tuple", data := PySem.Data.seq #[PySem.Value.str (PySem.Str.ofString "self") 466, PySem.Value.str (PySem.Str.ofString "uid") 467, PySem.Value.str (PySem.Str.ofString "octets") 468, PySem.Value.str (PySem.Str.ofString "flags") 469, PySem.Value.str (PySem.Str.ofString "instant") 470, PySem.Value.str (PySem.Str.ofString "modseq") 471] }
noncomputable def ob267 (P : PySem.Params) : PySem.Obj :=
  { cls := PySem.Value.type "tuple", data := PySem.Data.seq #[] }
noncomputable def ob268 (P : PySem.Params) : PySem.Obj :=
  { cls := PySem.Value.none, data := PySem.Data.func { name := PySem.Str.ofString "__init__", qualname := PySem.Str.ofString "Letter.__init__", params := Mine.dArgs (Mine.at_ (Mine.dBody (Mine.at_ Mine.M 22)) 0), body := PySem.FuncBody.stmts (Mine.dBody (Mine.at_ (Mine.dBody (Mine.at_ Mine.M 22)) 0)), scope := Mine.dScope (Mine.at_ (Mine.dBody (Mine.at_ Mine.M 22)) 0), globals := 0, closure := [], defaults := PySem.Value.none, kwdefaults := PySem.Value.none } }
noncomputable def ob269 (P : PySem.Params) : PySem.Obj :=
  { cls := PySem.Value.type "code", data := PySem.Data.fields #[PySem.Value.str (PySem.Str.ofString "__init__") 463, PySem.Value.str (PySem.Str.ofString "Letter.__init__") 464, PySem.Value.str (PySem.Str.ofString "/claim/cut.py") 465, PySem.Value.int 107 0, PySem.Value.int 6 0, PySem.Value.int 0 0, PySem.Value.int 0 0, PySem.Value.int 3 0, PySem.Value.ref 216, PySem.Value.bool Bool.true, PySem.Value.int 181 0, PySem.Value.ref 217, PySem.Value.none, PySem.Value.ref 218, PySem.Value.ref 219, PySem.Value.ref 220, PySem.Value.int 472 0, PySem.Value.int 107 0, PySem.Value.str (PySem.Str.ofString "/claim/cut.py") 473] }
noncomputable def ob270 (P : PySem.Params) : PySem.Obj :=
  { cls := PySem.Value.type "function", data := PySem.Data.func { name := PySem.Str.ofString "__init__", qualname := PySem.Str.ofString "Letter.__init__", params := Mine.dArgs (Mine.at_ (Mine.dBody (Mine.at_ Mine.M 22)) 0), body := PySem.FuncBody.stmts (Mine.dBody (Mine.at_ (Mine.dBody (Mine.at_ Mine.M 22)) 0)), scope := Mine.dScope (Mine.at_ (Mine.dBody (Mine.at_ Mine.M 22)) 0), globals := 3, closure := [], defaults := PySem.Value.none, kwdefaults := PySem.Value.none, pyModule := PySem.Value.str (PySem.Str.ofString "postkeep.boxes") 411, code := PySem.Value.ref 221 } }
noncomputable def ob271 (P : PySem.Params) : PySem.Obj :=
  { cls := PySem.Value.type "tuple", data := PySem.Data.seq #[] }
noncomputable def ob272 (P : PySem.Params) : PySem.Obj :=
  { cls := PySem.Value.none, data := PySem.Data.fields #[] }
noncomputable def ob273 (P : PySem.Params) : PySem.Obj :=
  { cls := PySem.Value.type "tuple", data := PySem.Data.seq #[PySem.Value.str (PySem.Str.ofString "self") 478, PySem.Value.str (PySem.Str.ofString "name") 479] }
noncomputable def ob274 (P : PySem.Params) : PySem.Obj :=
  { cls := PySem.Value.type "tuple", data := PySem.Data.seq #[] }
noncomputable def ob275 (P : PySem.Params) : PySem.Obj :=
  { cls := PySem.Value.none, data := PySem.Data.func { name := PySem.Str.ofString "has", qualname := PySem.Str.ofString "Letter.has", params := Mine.dArgs (Mine.at_ (Mine.dBody (Mine.at_ Mine.M 22)) 1), body := PySem.FuncBody.stmts (Mine.dBody (Mine.at_ (Mine.dBody (Mine.at_ Mine.M 22)) 1)), scope := Mine.dScope (Mine.at_ (Mine.dBody (Mine.at_ Mine.M 22)) 1), globals := 0, closure := [], defaults := PySem.Value.none, kwdefaults := PySem.Value.none } }
noncomputable def ob276 (P : PySem.Params) : PySem.Obj :=
  { cls := PySem.Value.type "code", data := PySem.Data.fields #[PySem.Value.str (PySem.Str.ofString "has") 475, PySem.Value.str (PySem.Str.ofString "Letter.has") 476, PySem.Value.str (PySem.Str.ofString "/claim/cut.py") 477, PySem.Value.int 114 0, PySem.Value.int 2 0, PySem.Value.int 0 0, PySem.Value.int 0 0, PySem.Value.int 3 0, PySem.Value.ref 223, PySem.Value.bool Bool.true, PySem.Value.int 181 0, PySem.Value.ref 224, PySem.Value.none, PySem.Value.ref 225, PySem.Value.ref 226, PySem.Value.ref 227, PySem.Value.int 480 0, PySem.Value.int 114 0, PySem.Value.str (PySem.Str.ofString "/claim/cut.py") 481] }
noncomputable def ob277 (P : PySem.Params) : PySem.Obj :=
  { cls := PySem.Value.type "function", data := PySem.Data.func { name := PySem.Str.ofString "has", qualname := PySem.Str.ofString "Letter.has", params := Mine.dArgs (Mine.at_ (Mine.dBody (Mine.at_ Mine.M 22)) 1), body := PySem.FuncBody.stmts (Mine.dBody (Mine.at_ (Mine.dBody (Mine.at_ Mine.M 22)) 1)), scope := Mine.dScope (Mine.at_ (Mine.dBody (Mine.at_ Mine.M 22)) 1), globals := 3, closure := [], defaults := PySem.Value.none, kwdefaults := PySem.Value.none, pyModule := PySem.Value.str (PySem.Str.ofString "postkeep.boxes") 411, code := PySem.Value.ref 228 } }
noncomputable def ob278 (P : PySem.Params) : PySem.Obj :=
  { cls := PySem.Value.type "tuple", data := PySem.Data.seq #[] }
noncomputable def ob279 (P : PySem.Params) : PySem.Obj :=
  { cls := PySem.Value.none, data := PySem.Data.fields #[] }
noncomputable def ob280 (P : PySem.Params) : PySem.Obj :=
  { cls := PySem.Value.type "tuple", data := PySem.Data.seq #[PySem.Value.str (PySem.Str.ofString "self") 486] }
noncomputable def ob281 (P : PySem.Params) : PySem.Obj :=
  { cls := PySem.Value.type "tuple", data := PySem.Data.seq #[] }
noncomputable def ob282 (P : PySem.Params) : PySem.Obj :=
  { cls := PySem.Value.none, data := PySem.Data.func { name := PySem.Str.ofString "told", qualname := PySem.Str.ofString "Letter.told", params := Mine.dArgs (Mine.at_ (Mine.dBody (Mine.at_ Mine.M 22)) 2), body := PySem.FuncBody.stmts (Mine.dBody (Mine.at_ (Mine.dBody (Mine.at_ Mine.M 22)) 2)), scope := Mine.dScope (Mine.at_ (Mine.dBody (Mine.at_ Mine.M 22)) 2), globals := 0, closure := [], defaults := PySem.Value.none, kwdefaults := PySem.Value.none } }
noncomputable def ob283 (P : PySem.Params) : PySem.Obj :=
  { cls := PySem.Value.type "code", data := PySem.Data.fields #[PySem.Value.str (PySem.Str.ofString "told") 483, PySem.Value.str (PySem.Str.ofString "Letter.told") 484, PySem.Value.str (PySem.Str.ofString "/claim/cut.py") 485, PySem.Value.int 117 0, PySem.Value.int 1 0, PySem.Value.int 0 0, PySem.Value.int 0 0, PySem.Value.int 3 0, PySem.Value.ref 230, PySem.Value.bool Bool.true, PySem.Value.int 181 0, PySem.Value.ref 231, PySem.Value.none, PySem.Value.ref 232, PySem.Value.ref 233, PySem.Value.ref 234, PySem.Value.int 487 0, PySem.Value.int 117 0, PySem.Value.str (PySem.Str.ofString "/claim/cut.py") 488] }
noncomputable def ob284 (P : PySem.Params) : PySem.Obj :=
  { cls := PySem.Value.type "function", data := PySem.Data.func { name := PySem.Str.ofString "told", qualname := PySem.Str.ofString "Letter.told", params := Mine.dArgs (Mine.at_ (Mine.dBody (Mine.at_ Mine.M 22)) 2), body := PySem.FuncBody.stmts (Mine.dBody (Mine.at_ (Mine.dBody (Mine.at_ Mine.M 22)) 2)), scope := Mine.dScope (Mine.at_ (Mine.dBody (Mine.at_ Mine.M 22)) 2), globals := 3, closure := [], defaults := PySem.Value.none, kwdefaults := PySem.Value.none, pyModule := PySem.Value.str (PySem.Str.ofString "postkeep.boxes") 411, code := PySem.Value.ref 235 } }
noncomputable def ob285 (P : PySem.Params) : PySem.Obj :=
  { cls := PySem.Value.type "tuple", data := PySem.Data.seq #[PySem.Value.str (PySem.Str.ofString "flags") 490, PySem.Value.str (PySem.Str.ofString "instant") 491, PySem.Value.str (PySem.Str.ofString "modseq") 492, PySem.Value.str (PySem.Str.ofString "octets") 493, PySem.Value.str (PySem.Str.ofString "uid") 494] }
noncomputable def ob286 (P : PySem.Params) : PySem.Obj :=
  { cls := PySem.Value.type "dict", data := PySem.Data.dict #[{ hash := PySem.PyData.keyHash P (PySem.Str.ofString "__module__"), key := PySem.Value.str (PySem.Str.ofString "__module__") 458, val := PySem.Value.str (PySem.Str.ofString "postkeep.boxes") 411 }, { hash := PySem.PyData.keyHash P (PySem.Str.ofString "__firstlineno__"), key := PySem.Value.str (PySem.Str.ofString "__firstlineno__") 462, val := PySem.Value.int 105 461 }, { hash := PySem.PyData.keyHash P (PySem.Str.ofString "__init__"), key := PySem.Value.str (PySem.Str.ofString "__init__") 474, val := PySem.Value.ref 222 }, { hash := PySem.PyData.keyHash P (PySem.Str.ofString "has"), key := PySem.Value.str (PySem.Str.ofString "has") 482, val := PySem.Value.ref 229 }, { hash := PySem.PyData.keyHash P (PySem.Str.ofString "told"), key := PySem.Value.str (PySem.Str.ofString "told") 489, val := PySem.Value.ref 236 }, { hash := PySem.PyData.keyHash P (PySem.Str.ofString "__static_attributes__"), key := PySem.Value.str (PySem.Str.ofString "__static_attributes__") 495, val := PySem.Value.ref 237 }, { hash := PySem.PyData.keyHash P (PySem.Str.ofString "__dict__"), key := PySem.Value.str (PySem.Str.ofString "__dict__") 497, val := PySem.Value.ref 240 }, { hash := PySem.PyData.keyHash P (PySem.Str.ofString "__weakref__"), key := PySem.Value.str (PySem.Str.ofString "__weakref__") 499, val := PySem.Value.ref 241 }, { hash := PySem.PyData.keyHash P (PySem.Str.ofString "__doc__"), key := PySem.Value.str (PySem.Str.ofString "__doc__") 500, val := PySem.Value.none }] 4 }
noncomputable def ob287 (P : PySem.Params) : PySem.Obj :=
  { cls := PySem.Value.type "type", data := PySem.Data.cls { name := PySem.Str.ofString "Letter", bases := [PySem.Value.type "object"], mro := [PySem.Value.ref 239, PySem.Value.type "object"], ns := 238, qualname := PySem.Str.ofString "Letter" }, slots := #[Option.none, Option.none, Option.some (PySem.Value.str (PySem.Str.ofString "Letter") 451), Option.some (PySem.Value.str (PySem.Str.ofString "Letter") 459), Option.some (PySem.Value.builtin "object.__new__"), Option.some (PySem.Value.bool Bool.true)] }
noncomputable def ob288 (P : PySem.Params) : PySem.Obj :=
  { cls := PySem.Value.type "getset_descriptor", data := PySem.Data.fields #[PySem.Value.str (PySem.Str.ofString "__dict__") 496, PySem.Value.ref 239, PySem.Value.builtin "function.__dict__", PySem.Value.builtin "function.__dict__#set"] }
noncomputable def ob289 (P : PySem.Params) : PySem.Obj :=
  { cls := PySem.Value.type "getset_descriptor", data := PySem.Data.fields #[PySem.Value.str (PySem.Str.ofString "__weakref__") 498, PySem.Value.ref 239, PySem.Value.builtin "ExceptionGroup.__weakref__", PySem.Value.none] }
noncomputable def ob290 (P : PySem.Params) : PySem.Obj :=
  { cls := PySem.Value.type "super", data := PySem.Data.fields #[PySem.Value.ref 239, PySem.Value.ref 239, PySem.Value.ref 239] }
noncomputable def ob291 (P : PySem.Params) : PySem.Obj :=
  { cls := PySem.Value.type "builtin_function_or_method", data := PySem.Data.fields #[PySem.Value.builtin "object.__init_subclass__", PySem.Value.ref 239] }
noncomputable def ob294 (P : PySem.Params) : PySem.Obj :=
  { cls := PySem.Value.type "tuple", data := PySem.Data.seq #[] }
noncomputable def ob295 (P : PySem.Params) : PySem.Obj :=
  { cls := PySem.Value.type "builtin_function_or_method", data := PySem.Data.fields #[PySem.Value.builtin "type.__prepare__", PySem.Value.type "type"] }
noncomputable def ob296 (P : PySem.Params) : PySem.Obj :=
  { cls := PySem.Value.type "dict", data := PySem.Data.dict #[{ hash := PySem.PyData.keyHash P (PySem.Str.ofString "__module__"), key := PySem.Value.str (PySem.Str.ofString "__module__") 510, val := PySem.Value.str (PySem.Str.ofString "postkeep.boxes") 411 }, { hash := PySem.PyData.keyHash P (PySem.Str.ofString "__qualname__"), key := PySem.Value.str (PySem.Str.ofString "__qualname__") 512, val := PySem.Value.str (PySem.Str.ofString "Box") 511 }, { hash := PySem.PyData.keyHash P (PySem.Str.ofString "__firstlineno__"), key := PySem.Value.str (PySem.Str.ofString "__firstlineno__") 514, val := PySem.Value.int 119 513 }, { hash := PySem.PyData.keyHash P (PySem.Str.ofString "__init__"), key := PySem.Value.str (PySem.Str.ofString "__init__") 523, val := PySem.Value.ref 257 }, { hash := PySem.PyData.keyHash P (PySem.Str.ofString "letter"), key := PySem.Value.str (PySem.Str.ofString "letter") 532, val := PySem.Value.ref 264 }, { hash := PySem.PyData.keyHash P (PySem.Str.ofString "uids"), key := PySem.Value.str (PySem.Str.ofString "uids") 538, val := PySem.Value.ref 269 }, { hash := PySem.PyData.keyHash P (PySem.Str.ofString "told"), key := PySem.Value.str (PySem.Str.ofString "told") 544, val := PySem.Value.ref 274 }, { hash := PySem.PyData.keyHash P (PySem.Str.ofString "__static_attributes__"), key := PySem.Value.str (PySem.Str.ofString "__static_attributes__") 552, val := PySem.Value.ref 275 }] 8 }
noncomputable def ob297 (P : PySem.Params) : PySem.Obj :=
  { cls := PySem.Value.type "tuple", data := PySem.Data.seq #[] }
noncomputable def ob298 (P : PySem.Params) : PySem.Obj :=
  { cls := PySem.Value.none, data := PySem.Data.fields #[PySem.Value.int 121 0, PySem.Value.int 4 0, PySem.Value.ref 256, PySem.Value.int 130 0, PySem.Value.int 4 0, PySem.Value.ref 263, PySem.Value.int 134 0, PySem.Value.int 4 0, PySem.Value.ref 268, PySem.Value.int 137 0, PySem.Value.int 4 0, PySem.Value.ref 273] }
noncomputable def ob299 (P : PySem.Params) : PySem.Obj :=
  { cls := PySem.Value.type "code", data := PySem.Data.fields #[PySem.Value.str (PySem.Str.ofString "Box") 505, PySem.Value.str (PySem.Str.ofString "Box") 506, PySem.Value.str (PySem.Str.ofString "/claim/cut.py") 507, PySem.Value.int 119 0, PySem.Value.int 0 0, PySem.Value.int 0 0, PySem.Value.int 0 0, PySem.Value.int 0 0, PySem.Value.ref 247, PySem.Value.bool Bool.false, PySem.Value.int 181 0, PySem.Value.ref 248, PySem.Value.none, PySem.Value.none, PySem.Value.none, PySem.Value.none, PySem.Value.int 508 0, PySem.Value.int 119 0, PySem.Value.str (PySem.Str.ofString "/claim/cut.py") 509] }
noncomputable def ob300 (P : PySem.Params) : PySem.Obj :=
  { cls := PySem.Value.type "frame", slots := #[Option.some (PySem.Value.ref 249), Option.some (PySem.Value.ref 3), Option.some (PySem.Value.ref 246), Option.none, Option.some (PySem.Value.str (PySem.Str.ofString "postkeep.boxes") 411), Option.none, Option.some (PySem.Value.ref 0)] }
noncomputable def ob301 (P : PySem.Params) : PySem.Obj :=
  { cls := PySem.Value.type "tuple", data := PySem.Data.seq #[] }
noncomputable def ob302 (P : PySem.Params) : PySem.Obj :=
  { cls := PySem.Value.none, data := PySem.Data.fields #[] }
noncomputable def ob303 (P : PySem.Params) : PySem.Obj :=
  { cls := PySem.Value.type "tuple", data := PySem.Data.seq #[PySem.Value.str (PySem.Str.ofString "self") 518, PySem.Value.str (PySem.Str.ofString "name") 519, PySem.Value.str (PySem.Str.ofString "validity") 520] }
noncomputable def ob304 (P : PySem.Params) : PySem.Obj :=
  { cls := PySem.Value.type "tuple", data := PySem.Data.seq #[] }
noncomputable def ob305 (P : PySem.Params) : PySem.Obj :=
  { cls := PySem.Value.none, data := PySem.Data.func { name := PySem.Str.ofString "__init__", qualname := PySem.Str.ofString "Box.__init__", params := Mine.dArgs (Mine.at_ (Mine.dBody (Mine.at_ Mine.M 23)) 0), body := PySem.FuncBody.stmts (Mine.dBody (Mine.at_ (Mine.dBody (Mine.at_ Mine.M 23)) 0)), scope := Mine.dScope (Mine.at_ (Mine.dBody (Mine.at_ Mine.M 23)) 0), globals := 0, closure := [], defaults := PySem.Value.none, kwdefaults := PySem.Value.none } }
noncomputable def ob306 (P : PySem.Params) : PySem.Obj :=
  { cls := PySem.Value.type "code", data := PySem.Data.fields #[PySem.Value.str (PySem.Str.ofString "__init__") 515, PySem.Value.str (PySem.Str.ofString "Box.__init__") 516, PySem.Value.str (PySem.Str.ofString "/claim/cut.py") 517, PySem.Value.int 121 0, PySem.Value.int 3 0, PySem.Value.int 0 0, PySem.Value.int 0 0, PySem.Value.int 3 0, PySem.Value.ref 251, PySem.Value.bool Bool.true, PySem.Value.int 181 0, PySem.Value.ref 252, PySem.Value.none, PySem.Value.ref 253, PySem.Value.ref 254, PySem.Value.ref 255, PySem.Value.int 521 0, PySem.Value.int 121 0, PySem.Value.str (PySem.Str.ofString "/claim/cut.py") 522] }
noncomputable def ob307 (P : PySem.Params) : PySem.Obj :=
  { cls := PySem.Value.type "function", data := PySem.Data.func { name := PySem.Str.ofString "__init__", qualname := PySem.Str.ofString "Box.__init__", params := Mine.dArgs (Mine.at_ (Mine.dBody (Mine.at_ Mine.M 23)) 0), body := PySem.FuncBody.stmts (Mine.dBody (Mine.at_ (Mine.dBody (Mine.at_ Mine.M 23)) 0)), scope := Mine.dScope (Mine.at_ (Mine.dBody (Mine.at_ Mine.M 23)) 0), globals := 3, closure := [], defaults := PySem.Value.none, kwdefaults := PySem.Value.none, pyModule := PySem.Value.str (PySem.Str.ofString "postkeep.boxes") 411, code := PySem.Value.ref 256 } }
noncomputable def ob308 (P : PySem.Params) : PySem.Obj :=
  { cls := PySem.Value.type "tuple", data := PySem.Data.seq #[] }
noncomputable def ob309 (P : PySem.Params) : PySem.Obj :=
  { cls := PySem.Value.none, data := PySem.Data.fields #[] }
noncomputable def ob310 (P : PySem.Params) : PySem.Obj :=
  { cls := PySem.Value.type "tuple", data := PySem.Data.seq #[PySem.Value.str (PySem.Str.ofString "self") 527, PySem.Value.str (PySem.Str.ofString "uid") 528, PySem.Value.str (PySem.Str.ofString "at") 529] }
noncomputable def ob311 (P : PySem.Params) : PySem.Obj :=
  { cls := PySem.Value.type "tuple", data := PySem.Data.seq #[] }
noncomputable def ob312 (P : PySem.Params) : PySem.Obj :=
  { cls := PySem.Value.none, data := PySem.Data.func { name := PySem.Str.ofString "letter", qualname := PySem.Str.ofString "Box.letter", params := Mine.dArgs (Mine.at_ (Mine.dBody (Mine.at_ Mine.M 23)) 1), body := PySem.FuncBody.stmts (Mine.dBody (Mine.at_ (Mine.dBody (Mine.at_ Mine.M 23)) 1)), scope := Mine.dScope (Mine.at_ (Mine.dBody (Mine.at_ Mine.M 23)) 1), globals := 0, closure := [], defaults := PySem.Value.none, kwdefaults := PySem.Value.none } }
noncomputable def ob313 (P : PySem.Params) : PySem.Obj :=
  { cls := PySem.Value.type "code", data := PySem.Data.fields #[PySem.Value.str (PySem.Str.ofString "letter") 524, PySem.Value.str (PySem.Str.ofString "Box.letter") 525, PySem.Value.str (PySem.Str.ofString "/claim/cut.py") 526, PySem.Value.int 130 0, PySem.Value.int 2 0, PySem.Value.int 0 0, PySem.Value.int 0 0, PySem.Value.int 3 0, PySem.Value.ref 258, PySem.Value.bool Bool.true, PySem.Value.int 181 0, PySem.Value.ref 259, PySem.Value.none, PySem.Value.ref 260, PySem.Value.ref 261, PySem.Value.ref 262, PySem.Value.int 530 0, PySem.Value.int 130 0, PySem.Value.str (PySem.Str.ofString "/claim/cut.py") 531] }
noncomputable def ob314 (P : PySem.Params) : PySem.Obj :=
  { cls := PySem.Value.type "function", data := PySem.Data.func { name := PySem.Str.ofString "letter", qualname := PySem.Str.ofString "Box.letter", params := Mine.dArgs (Mine.at_ (Mine.dBody (Mine.at_ Mine.M 23)) 1), body := PySem.FuncBody.stmts (Mine.dBody (Mine.at_ (Mine.dBody (Mine.at_ Mine.M 23)) 1)), scope := Mine.dScope (Mine.at_ (Mine.dBody (Mine.at_ Mine.M 23)) 1), globals := 3, closure := [], defaults := PySem.Value.none, kwdefaults := PySem.Value.none, pyModule := PySem.Value.str (PySem.Str.ofString "postkeep.boxes") 411, code := PySem.Value.ref 263 } }
noncomputable def ob315 (P : PySem.Params) : PySem.Obj :=
  { cls := PySem.Value.type "tuple", data := PySem.Data.seq #[] }
noncomputable def ob316 (P : PySem.Params) : PySem.Obj :=
  { cls := PySem.Value.none, data := PySem.Data.fields #[] }
noncomputable def ob317 (P : PySem.Params) : PySem.Obj :=
  { cls := PySem.Value.none, data := PySem.Data.func { name := PySem.Str.ofString "uids", qualname := PySem.Str.ofString "Box.uids", params := Mine.dArgs (Mine.at_ (Mine.dBody (Mine.at_ Mine.M 23)) 2), body := PySem.FuncBody.stmts (Mine.dBody (Mine.at_ (Mine.dBody (Mine.at_ Mine.M 23)) 2)), scope := Mine.dScope (Mine.at_ (Mine.dBody (Mine.at_ Mine.M 23)) 2), globals := 0, closure := [], defaults := PySem.Value.none, kwdefaults := PySem.Value.none } }
noncomputable def ob318 (P : PySem.Params) : PySem.Obj :=
  { cls := PySem.Value.type "code", data := PySem.Data.fields #[PySem.Value.str (PySem.Str.ofString "uids") 533, PySem.Value.str (PySem.Str.ofString "Box.uids") 534, PySem.Value.str (PySem.Str.ofString "/claim/cut.py") 535, PySem.Value.int 134 0, PySem.Value.int 1 0, PySem.Value.int 0 0, PySem.Value.int 0 0, PySem.Value.int 3 0, PySem.Value.ref 265, PySem.Value.bool Bool.true, PySem.Value.int 181 0, PySem.Value.ref 266, PySem.Value.none, PySem.Value.none, PySem.Value.none, PySem.Value.ref 267, PySem.Value.int 536 0, PySem.Value.int 134 0, PySem.Value.str (PySem.Str.ofString "/claim/cut.py") 537] }
noncomputable def ob319 (P : PySem.Params) : PySem.Obj :=
  { cls := PySem.Value.type "function", data := PySem.Data.func { name := PySem.Str.ofString "uids", qualname := PySem.Str.ofString "Box.uids", params := Mine.dArgs (Mine.at_ (Mine.dBody (Mine.at_ Mine.M 23)) 2), body := PySem.FuncBody.stmts (Mine.dBody (Mine.at_ (Mine.dBody (Mine.at_ Mine.M 23)) 2)), scope := Mine.dScope (Mine.at_ (Mine.dBody (Mine.at_ Mine.M 23)) 2), globals := 3, closure := [], defaults := PySem.Value.none, kwdefaults := PySem.Value.none, pyModule := PySem.Value.str (PySem.Str.ofString "postkeep.boxes") 411, code := PySem.Value.ref 268 } }
noncomputable def ob320 (P : PySem.Params) : PySem.Obj :=
  { cls := PySem.Value.type "tuple", data := PySem.Data.seq #[] }
noncomputable def ob321 (P : PySem.Params) : PySem.Obj :=
  { cls := PySem.Value.none, data := PySem.Data.fields #[] }
noncomputable def ob322 (P : PySem.Params) : PySem.Obj :=
  { cls := PySem.Value.none, data := PySem.Data.func { name := PySem.Str.ofString "told", qualname := PySem.Str.ofString "Box.told", params := Mine.dArgs (Mine.at_ (Mine.dBody (Mine.at_ Mine.M 23)) 3), body := PySem.FuncBody.stmts (Mine.dBody (Mine.at_ (Mine.dBody (Mine.at_ Mine.M 23)) 3)), scope := Mine.dScope (Mine.at_ (Mine.dBody (Mine.at_ Mine.M 23)) 3), globals := 0, closure := [], defaults := PySem.Value.none, kwdefaults := PySem.Value.none } }
noncomputable def ob323 (P : PySem.Params) : PySem.Obj :=
  { cls := PySem.Value.type "code", data := PySem.Data.fields #[PySem.Value.str (PySem.Str.ofString "told") 539, PySem.Value.str (PySem.Str.ofString "Box.told") 540, PySem.Value.str (PySem.Str.ofString "/claim/cut.py") 541, PySem.Value.int 137 0, PySem.Value.int 1 0, PySem.Value.int 0 0, PySem.Value.int 0 0, PySem.Value.int 3 0, PySem.Value.ref 270, PySem.Value.bool Bool.true, PySem.Value.int 181 0, PySem.Value.ref 271, PySem.Value.none, PySem.Value.none, PySem.Value.none, PySem.Value.ref 272, PySem.Value.int 542 0, PySem.Value.int 137 0, PySem.Value.str (PySem.Str.ofString "/claim/cut.py") 543] }
noncomputable def ob324 (P : PySem.Params) : PySem.Obj :=
  { cls := PySem.Value.type "function", data := PySem.Data.func { name := PySem.Str.ofString "told", qualname := PySem.Str.ofString "Box.told", params := Mine.dArgs (Mine.at_ (Mine.dBody (Mine.at_ Mine.M 23)) 3), body := PySem.FuncBody.stmts (Mine.dBody (Mine.at_ (Mine.dBody (Mine.at_ Mine.M 23)) 3)), scope := Mine.dScope (Mine.at_ (Mine.dBody (Mine.at_ Mine.M 23)) 3), globals := 3, closure := [], defaults := PySem.Value.none, kwdefaults := PySem.Value.none, pyModule := PySem.Value.str (PySem.Str.ofString "postkeep.boxes") 411, code := PySem.Value.ref 273 } }
noncomputable def ob325 (P : PySem.Params) : PySem.Obj :=
  { cls := PySem.Value.type "tuple", data := PySem.Data.seq #[PySem.Value.str (PySem.Str.ofString "floor") 545, PySem.Value.str (PySem.Str.ofString "gone") 546, PySem.Value.str (PySem.Str.ofString "letters") 547, PySem.Value.str (PySem.Str.ofString "name") 548, PySem.Value.str (PySem.Str.ofString "next_uid") 549, PySem.Value.str (PySem.Str.ofString "top") 550, PySem.Value.str (PySem.Str.ofString "validity") 551] }
noncomputable def ob326 (P : PySem.Params) : PySem.Obj :=
  { cls := PySem.Value.type "dict", data := PySem.Data.dict #[{ hash := PySem.PyData.keyHash P (PySem.Str.ofString "__module__"), key := PySem.Value.str (PySem.Str.ofString "__module__") 510, val := PySem.Value.str (PySem.Str.ofString "postkeep.boxes") 411 }, { hash := PySem.PyData.keyHash P (PySem.Str.ofString "__firstlineno__"), key := PySem.Value.str (PySem.Str.ofString "__firstlineno__") 514, val := PySem.Value.int 119 513 }, { hash := PySem.PyData.keyHash P (PySem.Str.ofString "__init__"), key := PySem.Value.str (PySem.Str.ofString "__init__") 523, val := PySem.Value.ref 257 }, { hash := PySem.PyData.keyHash P (PySem.Str.ofString "letter"), key := PySem.Value.str (PySem.Str.ofString "letter") 532, val := PySem.Value.ref 264 }, { hash := PySem.PyData.keyHash P (PySem.Str.ofString "uids"), key := PySem.Value.str (PySem.Str.ofString "uids") 538, val := PySem.Value.ref 269 }, { hash := PySem.PyData.keyHash P (PySem.Str.ofString "told"), key := PySem.Value.str (PySem.Str.ofString "told") 544, val := PySem.Value.ref 274 }, { hash := PySem.PyData.keyHash P (PySem.Str.ofString "__static_attributes__"), key := PySem.Value.str (PySem.Str.ofString "__static_attributes__") 552, val := PySem.Value.ref 275 }, { hash := PySem.PyData.keyHash P (PySem.Str.ofString "__dict__"), key := PySem.Value.str (PySem.Str.ofString "__dict__") 554, val := PySem.Value.ref 278 }, { hash := PySem.PyData.keyHash P (PySem.Str.ofString "__weakref__"), key := PySem.Value.str (PySem.Str.ofString "__weakref__") 556, val := PySem.Value.ref 279 }, { hash := PySem.PyData.keyHash P (PySem.Str.ofString "__doc__"), key := PySem.Value.str (PySem.Str.ofString "__doc__") 557, val := PySem.Value.none }] 4 }
noncomputable def ob327 (P : PySem.Params) : PySem.Obj :=
  { cls := PySem.Value.type "type", data := PySem.Data.cls { name := PySem.Str.ofString "Box", bases := [PySem.Value.type "object"], mro := [PySem.Value.ref 277, PySem.Value.type "object"], ns := 276, qualname := PySem.Str.ofString "Box" }, slots := #[Option.none, Option.none, Option.some (PySem.Value.str (PySem.Str.ofString "Box") 503), Option.some (PySem.Value.str (PySem.Str.ofString "Box") 511), Option.some (PySem.Value.builtin "object.__new__"), Option.some (PySem.Value.bool Bool.true)] }
noncomputable def ob328 (P : PySem.Params) : PySem.Obj :=
  { cls := PySem.Value.type "getset_descriptor", data := PySem.Data.fields #[PySem.Value.str (PySem.Str.ofString "__dict__") 553, PySem.Value.ref 277, PySem.Value.builtin "function.__dict__", PySem.Value.builtin "function.__dict__#set"] }
noncomputable def ob329 (P : PySem.Params) : PySem.Obj :=
  { cls := PySem.Value.type "getset_descriptor", data := PySem.Data.fields #[PySem.Value.str (PySem.Str.ofString "__weakref__") 555, PySem.Value.ref 277, PySem.Value.builtin "ExceptionGroup.__weakref__", PySem.Value.none] }
noncomputable def ob330 (P : PySem.Params) : PySem.Obj :=
  { cls := PySem.Value.type "super", data := PySem.Data.fields #[PySem.Value.ref 277, PySem.Value.ref 277, PySem.Value.ref 277] }
noncomputable def ob331 (P : PySem.Params) : PySem.Obj :=
  { cls := PySem.Value.type "builtin_function_or_method", data := PySem.Data.fields #[PySem.Value.builtin "object.__init_subclass__", PySem.Value.ref 277] }
noncomputable def ob332 (P : PySem.Params) : PySem.Obj :=
  { cls := PySem.Value.type "tuple", data := PySem.Data.seq #[] }
noncomputable def ob333 (P : PySem.Params) : PySem.Obj :=
  { cls := PySem.Value.none, data := PySem.Data.fields #[] }
noncomputable def ob334 (P : PySem.Params) : PySem.Obj :=
  { cls := PySem.Value.type "tuple", data := PySem.Data.seq #[PySem.Value.str (PySem.Str.ofString "letters") 563, PySem.Value.str (PySem.Str.ofString "uid") 564, PySem.Value.str (PySem.Str.ofString "low") 565, PySem.Value.str (PySem.Str.ofString "high") 566, PySem.Value.str (PySem.Str.ofString "middle") 567] }
noncomputable def ob335 (P : PySem.Params) : PySem.Obj :=
  { cls := PySem.Value.type "tuple", data := PySem.Data.seq #[] }
noncomputable def ob336 (P : PySem.Params) : PySem.Obj :=
  { cls := PySem.Value.none, data := PySem.Data.func { name := PySem.Str.ofString "place_of", qualname := PySem.Str.ofString "place_of", params := Mine.dArgs (Mine.at_ Mine.M 24), body := PySem.FuncBody.stmts (Mine.dBody (Mine.at_ Mine.M 24)), scope := Mine.dScope (Mine.at_ Mine.M 24), globals := 0, closure := [], defaults := PySem.Value.none, kwdefaults := PySem.Value.none } }
noncomputable def ob337 (P : PySem.Params) : PySem.Obj :=
  { cls := PySem.Value.type "code", data := PySem.Data.fields #[PySem.Value.str (PySem.Str.ofString "place_of") 560, PySem.Value.str (PySem.Str.ofString "place_of") 561, PySem.Value.str (PySem.Str.ofString "/claim/cut.py") 562, PySem.Value.int 140 0, PySem.Value.int 2 0, PySem.Value.int 0 0, PySem.Value.int 0 0, PySem.Value.int 3 0, PySem.Value.ref 282, PySem.Value.bool Bool.true, PySem.Value.int 181 0, PySem.Value.ref 283, PySem.Value.none, PySem.Value.ref 284, PySem.Value.ref 285, PySem.Value.ref 286, PySem.Value.int 568 0, PySem.Value.int 140 0, PySem.Value.str (PySem.Str.ofString "/claim/cut.py") 569] }
noncomputable def ob338 (P : PySem.Params) : PySem.Obj :=
  { cls := PySem.Value.type "function", data := PySem.Data.func { name := PySem.Str.ofString "place_of", qualname := PySem.Str.ofString "place_of", params := Mine.dArgs (Mine.at_ Mine.M 24), body := PySem.FuncBody.stmts (Mine.dBody (Mine.at_ Mine.M 24)), scope := Mine.dScope (Mine.at_ Mine.M 24), globals := 3, closure := [], defaults := PySem.Value.none, kwdefaults := PySem.Value.none, pyModule := PySem.Value.str (PySem.Str.ofString "postkeep.boxes") 411, code := PySem.Value.ref 287 } }
noncomputable def ob339 (P : PySem.Params) : PySem.Obj :=
  { cls := PySem.Value.type "tuple", data := PySem.Data.seq #[] }
noncomputable def ob340 (P : PySem.Params) : PySem.Obj :=
  { cls := PySem.Value.none, data := PySem.Data.fields #[] }
noncomputable def ob341 (P : PySem.Params) : PySem.Obj :=
  { cls := PySem.Value.type "tuple", data := PySem.Data.seq #[PySem.Value.str (PySem.Str.ofString "box") 574] }
noncomputable def ob342 (P : PySem.Params) : PySem.Obj :=
  { cls := PySem.Value.type "tuple", data := PySem.Data.seq #[] }
noncomputable def ob343 (P : PySem.Params) : PySem.Obj :=
  { cls := PySem.Value.none, data := PySem.Data.func { name := PySem.Str.ofString "raised", qualname := PySem.Str.ofString "raised", params := Mine.dArgs (Mine.at_ Mine.M 25), body := PySem.FuncBody.stmts (Mine.dBody (Mine.at_ Mine.M 25)), scope := Mine.dScope (Mine.at_ Mine.M 25), globals := 0, closure := [], defaults := PySem.Value.none, kwdefaults := PySem.Value.none } }
noncomputable def ob344 (P : PySem.Params) : PySem.Obj :=
  { cls := PySem.Value.type "code", data := PySem.Data.fields #[PySem.Value.str (PySem.Str.ofString "raised") 571, PySem.Value.str (PySem.Str.ofString "raised") 572, PySem.Value.str (PySem.Str.ofString "/claim/cut.py") 573, PySem.Value.int 151 0, PySem.Value.int 1 0, PySem.Value.int 0 0, PySem.Value.int 0 0, PySem.Value.int 3 0, PySem.Value.ref 289, PySem.Value.bool Bool.true, PySem.Value.int 181 0, PySem.Value.ref 290, PySem.Value.none, PySem.Value.ref 291, PySem.Value.ref 292, PySem.Value.ref 293, PySem.Value.int 575 0, PySem.Value.int 151 0, PySem.Value.str (PySem.Str.ofString "/claim/cut.py") 576] }
noncomputable def ob345 (P : PySem.Params) : PySem.Obj :=
  { cls := PySem.Value.type "function", data := PySem.Data.func { name := PySem.Str.ofString "raised", qualname := PySem.Str.ofString "raised", params := Mine.dArgs (Mine.at_ Mine.M 25), body := PySem.FuncBody.stmts (Mine.dBody (Mine.at_ Mine.M 25)), scope := Mine.dScope (Mine.at_ Mine.M 25), globals := 3, closure := [], defaults := PySem.Value.none, kwdefaults := PySem.Value.none, pyModule := PySem.Value.str (PySem.Str.ofString "postkeep.boxes") 411, code := PySem.Value.ref 294 } }
noncomputable def ob346 (P : PySem.Params) : PySem.Obj :=
  { cls := PySem.Value.type "dict", data := PySem.Data.dict #[{ hash := PySem.PyData.keyHash P (PySem.Str.ofString "__name__"), key := PySem.Value.str (PySem.Str.ofString "__name__") 165, val := PySem.Value.str (PySem.Str.ofString "law_nz0299_01") 602 }, { hash := PySem.PyData.keyHash P (PySem.Str.ofString "__doc__"), key := PySem.Value.str (PySem.Str.ofString "__doc__") 166, val := PySem.Value.none }, { hash := PySem.PyData.keyHash P (PySem.Str.ofString "__package__"), key := PySem.Value.str (PySem.Str.ofString "__package__") 167, val := PySem.Value.none }, { hash := PySem.PyData.keyHash P (PySem.Str.ofString "__loader__"), key := PySem.Value.str (PySem.Str.ofString "__loader__") 168, val := PySem.Value.builtin "__main__.__loader__#opaque" }, { hash := PySem.PyData.keyHash P (PySem.Str.ofString "__spec__"), key := PySem.Value.str (PySem.Str.ofString "__spec__") 169, val := PySem.Value.none }, { hash := PySem.PyData.keyHash P (PySem.Str.ofString "__annotations__"), key := PySem.Value.str (PySem.Str.ofString "__annotations__") 170, val := PySem.Value.ref 6 }, { hash := PySem.PyData.keyHash P (PySem.Str.ofString "__builtins__"), key := PySem.Value.str (PySem.Str.ofString "__builtins__") 171, val := PySem.Value.ref 4 }, { hash := PySem.PyData.keyHash P (PySem.Str.ofString "__file__"), key := PySem.Value.str (PySem.Str.ofString "__file__") 173, val := PySem.Value.str (PySem.Str.ofString "/claim/cut.py") 172 }, { hash := PySem.PyData.keyHash P (PySem.Str.ofString "__cached__"), key := PySem.Value.str (PySem.Str.ofString "__cached__") 174, val := PySem.Value.none }, { hash := PySem.PyData.keyHash P (PySem.Str.ofString "_wall"), key := PySem.Value.str (PySem.Str.ofString "_wall") 193, val := PySem.Value.ref 21 }, { hash := PySem.PyData.keyHash P (PySem.Str.ofString "Atom"), key := PySem.Value.str (PySem.Str.ofString "Atom") 231, val := PySem.Value.ref 45 }, { hash := PySem.PyData.keyHash P (PySem.Str.ofString "View"), key := PySem.Value.str (PySem.Str.ofString "View") 305, val := PySem.Value.ref 98 }, { hash := PySem.PyData.keyHash P (PySem.Str.ofString "note"), key := PySem.Value.str (PySem.Str.ofString "note") 313, val := PySem.Value.ref 109 }, { hash := PySem.PyData.keyHash P (PySem.Str.ofString "keep_silent"), key := PySem.Value.str (PySem.Str.ofString "keep_silent") 322, val := PySem.Value.ref 116 }, { hash := PySem.PyData.keyHash P (PySem.Str.ofString "is_stale"), key := PySem.Value.str (PySem.Str.ofString "is_stale") 330, val := PySem.Value.ref 123 }, { hash := PySem.PyData.keyHash P (PySem.Str.ofString "flag_pairs"), key := PySem.Value.str (PySem.Str.ofString "flag_pairs") 336, val := PySem.Value.ref 128 }, { hash := PySem.PyData.keyHash P (PySem.Str.ofString "flag_news"), key := PySem.Value.str (PySem.Str.ofString "flag_news") 346, val := PySem.Value.ref 135 }, { hash := PySem.PyData.keyHash P (PySem.Str.ofString "is_up_to_date"), key := PySem.Value.str (PySem.Str.ofString "is_up_to_date") 352, val := PySem.Value.ref 140 }, { hash := PySem.PyData.keyHash P (PySem.Str.ofString "PostError"), key := PySem.Value.str (PySem.Str.ofString "PostError") 394, val := PySem.Value.ref 165 }, { hash := PySem.PyData.keyHash P (PySem.Str.ofString "StoreFault"), key := PySem.Value.str (PySem.Str.ofString "StoreFault") 410, val := PySem.Value.ref 178 }, { hash := PySem.PyData.keyHash P (PySem.Str.ofString "SYSTEM"), key := PySem.Value.str (PySem.Str.ofString "SYSTEM") 414, val := PySem.Value.str (PySem.Str.ofString "\\Seen \\Answered \\Flagged \\Deleted \\Draft") 413 }, { hash := PySem.PyData.keyHash P (PySem.Str.ofString "NO_KEYWORD"), key := PySem.Value.str (PySem.Str.ofString "NO_KEYWORD") 416, val := PySem.Value.str (PySem.Str.ofString "(){ %*\"\\]") 415 }, { hash := PySem.PyData.keyHash P (PySem.Str.ofString "MOST_KEYWORD"), key := PySem.Value.str (PySem.Str.ofString "MOST_KEYWORD") 418, val := PySem.Value.int 60 417 }, { hash := PySem.PyData.keyHash P (PySem.Str.ofString "system_flags"), key := PySem.Value.str (PySem.Str.ofString "system_flags") 424, val := PySem.Value.ref 187 }, { hash := PySem.PyData.keyHash P (PySem.Str.ofString "is_keyword"), key := PySem.Value.str (PySem.Str.ofString "is_keyword") 432, val := PySem.Value.ref 194 }, { hash := PySem.PyData.keyHash P (PySem.Str.ofString "flag_name"), key := PySem.Value.str (PySem.Str.ofString "flag_name") 440, val := PySem.Value.ref 201 }, { hash := PySem.PyData.keyHash P (PySem.Str.ofString "flag_tuple"), key := PySem.Value.str (PySem.Str.ofString "flag_tuple") 450, val := PySem.Value.ref 208 }, { hash := PySem.PyData.keyHash P (PySem.Str.ofString "Letter"), key := PySem.Value.str (PySem.Str.ofString "Letter") 502, val := PySem.Value.ref 239 }, { hash := PySem.PyData.keyHash P (PySem.Str.ofString "Box"), key := PySem.Value.str (PySem.Str.ofString "Box") 559, val := PySem.Value.ref 277 }, { hash := PySem.PyData.keyHash P (PySem.Str.ofString "place_of"), key := PySem.Value.str (PySem.Str.ofString "place_of") 570, val := PySem.Value.ref 288 }, { hash := PySem.PyData.keyHash P (PySem.Str.ofString "raised"), key := PySem.Value.str (PySem.Str.ofString "raised") 577, val := PySem.Value.ref 295 }, { hash := PySem.PyData.keyHash P (PySem.Str.ofString "add_letter"), key := PySem.Value.str (PySem.Str.ofString "add_letter") 589, val := PySem.Value.ref 302 }, { hash := PySem.PyData.keyHash P (PySem.Str.ofString "set_flags"), key := PySem.Value.str (PySem.Str.ofString "set_flags") 601, val := PySem.Value.ref 309 }, { hash := PySem.PyData.keyHash P (PySem.Str.ofString "_law_draw"), key := PySem.Value.str (PySem.Str.ofString "_law_draw") 612, val := PySem.Value.ref 316 }, { hash := PySem.PyData.keyHash P (PySem.Str.ofString "_law_flags"), key := PySem.Value.str (PySem.Str.ofString "_law_flags") 618, val := PySem.Value.ref 323 }, { hash := PySem.PyData.keyHash P (PySem.Str.ofString "law"), key := PySem.Value.str (PySem.Str.ofString "law") 624, val := PySem.Value.ref 328 }] 36 }
noncomputable def ob347 (P : PySem.Params) : PySem.Obj :=
  { cls := PySem.Value.none, data := PySem.Data.fields #[PySem.Value.int 1 0, PySem.Value.int 0 0, PySem.Value.ref 20, PySem.Value.int 5 0, PySem.Value.int 0 0, PySem.Value.ref 27, PySem.Value.int 13 0, PySem.Value.int 0 0, PySem.Value.ref 55, PySem.Value.int 38 0, PySem.Value.int 0 0, PySem.Value.ref 108, PySem.Value.int 41 0, PySem.Value.int 0 0, PySem.Value.ref 115, PySem.Value.int 45 0, PySem.Value.int 0 0, PySem.Value.ref 122, PySem.Value.int 49 0, PySem.Value.int 0 0, PySem.Value.ref 127, PySem.Value.int 56 0, PySem.Value.int 0 0, PySem.Value.ref 134, PySem.Value.int 64 0, PySem.Value.int 0 0, PySem.Value.ref 139, PySem.Value.int 67 0, PySem.Value.int 0 0, PySem.Value.ref 146, PySem.Value.int 76 0, PySem.Value.int 0 0, PySem.Value.ref 174, PySem.Value.int 82 0, PySem.Value.int 0 0, PySem.Value.ref 186, PySem.Value.int 84 0, PySem.Value.int 0 0, PySem.Value.ref 193, PySem.Value.int 91 0, PySem.Value.int 0 0, PySem.Value.ref 200, PySem.Value.int 98 0, PySem.Value.int 0 0, PySem.Value.ref 207, PySem.Value.int 105 0, PySem.Value.int 0 0, PySem.Value.ref 214, PySem.Value.int 119 0, PySem.Value.int 0 0, PySem.Value.ref 249, PySem.Value.int 140 0, PySem.Value.int 0 0, PySem.Value.ref 287, PySem.Value.int 151 0, PySem.Value.int 0 0, PySem.Value.ref 294, PySem.Value.int 154 0, PySem.Value.int 0 0, PySem.Value.ref 301, PySem.Value.int 160 0, PySem.Value.int 0 0, PySem.Value.ref 308, PySem.Value.int 171 0, PySem.Value.int 0 0, PySem.Value.ref 315, PySem.Value.int 177 0, PySem.Value.int 0 0, PySem.Value.ref 322, PySem.Value.int 179 0, PySem.Value.int 0 0, PySem.Value.ref 327] }
noncomputable def ob348 (P : PySem.Params) : PySem.Obj :=
  { cls := PySem.Value.type "tuple", data := PySem.Data.seq #[] }
noncomputable def ob349 (P : PySem.Params) : PySem.Obj :=
  { cls := PySem.Value.none, data := PySem.Data.fields #[] }
noncomputable def ob350 (P : PySem.Params) : PySem.Obj :=
  { cls := PySem.Value.type "tuple", data := PySem.Data.seq #[PySem.Value.str (PySem.Str.ofString "box") 581, PySem.Value.str (PySem.Str.ofString "octets") 582, PySem.Value.str (PySem.Str.ofString "flags") 583, PySem.Value.str (PySem.Str.ofString "instant") 584, PySem.Value.str (PySem.Str.ofString "names") 585, PySem.Value.str (PySem.Str.ofString "letter") 586] }
noncomputable def ob351 (P : PySem.Params) : PySem.Obj :=
  { cls := PySem.Value.type "tuple", data := PySem.Data.seq #[] }
noncomputable def ob352 (P : PySem.Params) : PySem.Obj :=
  { cls := PySem.Value.none, data := PySem.Data.func { name := PySem.Str.ofString "add_letter", qualname := PySem.Str.ofString "add_letter", params := Mine.dArgs (Mine.at_ Mine.M 26), body := PySem.FuncBody.stmts (Mine.dBody (Mine.at_ Mine.M 26)), scope := Mine.dScope (Mine.at_ Mine.M 26), globals := 0, closure := [], defaults := PySem.Value.none, kwdefaults := PySem.Value.none } }
noncomputable def ob353 (P : PySem.Params) : PySem.Obj :=
  { cls := PySem.Value.type "code", data := PySem.Data.fields #[PySem.Value.str (PySem.Str.ofString "add_letter") 578, PySem.Value.str (PySem.Str.ofString "add_letter") 579, PySem.Value.str (PySem.Str.ofString "/claim/cut.py") 580, PySem.Value.int 154 0, PySem.Value.int 4 0, PySem.Value.int 0 0, PySem.Value.int 0 0, PySem.Value.int 3 0, PySem.Value.ref 296, PySem.Value.bool Bool.true, PySem.Value.int 181 0, PySem.Value.ref 297, PySem.Value.none, PySem.Value.ref 298, PySem.Value.ref 299, PySem.Value.ref 300, PySem.Value.int 587 0, PySem.Value.int 154 0, PySem.Value.str (PySem.Str.ofString "/claim/cut.py") 588] }
noncomputable def ob354 (P : PySem.Params) : PySem.Obj :=
  { cls := PySem.Value.type "function", data := PySem.Data.func { name := PySem.Str.ofString "add_letter", qualname := PySem.Str.ofString "add_letter", params := Mine.dArgs (Mine.at_ Mine.M 26), body := PySem.FuncBody.stmts (Mine.dBody (Mine.at_ Mine.M 26)), scope := Mine.dScope (Mine.at_ Mine.M 26), globals := 3, closure := [], defaults := PySem.Value.none, kwdefaults := PySem.Value.none, pyModule := PySem.Value.str (PySem.Str.ofString "postkeep.boxes") 411, code := PySem.Value.ref 301 } }
noncomputable def ob355 (P : PySem.Params) : PySem.Obj :=
  { cls := PySem.Value.type "tuple", data := PySem.Data.seq #[] }
noncomputable def ob356 (P : PySem.Params) : PySem.Obj :=
  { cls := PySem.Value.none, data := PySem.Data.fields #[] }
noncomputable def ob357 (P : PySem.Params) : PySem.Obj :=
  { cls := PySem.Value.type "tuple", data := PySem.Data.seq #[PySem.Value.str (PySem.Str.ofString "box") 593, PySem.Value.str (PySem.Str.ofString "uid") 594, PySem.Value.str (PySem.Str.ofString "flags") 595, PySem.Value.str (PySem.Str.ofString "names") 596, PySem.Value.str (PySem.Str.ofString "at") 597, PySem.Value.str (PySem.Str.ofString "letter") 598] }
noncomputable def ob358 (P : PySem.Params) : PySem.Obj :=
  { cls := PySem.Value.type "tuple", data := PySem.Data.seq #[] }
noncomputable def ob359 (P : PySem.Params) : PySem.Obj :=
  { cls := PySem.Value.none, data := PySem.Data.func { name := PySem.Str.ofString "set_flags", qualname := PySem.Str.ofString "set_flags", params := Mine.dArgs (Mine.at_ Mine.M 27), body := PySem.FuncBody.stmts (Mine.dBody (Mine.at_ Mine.M 27)), scope := Mine.dScope (Mine.at_ Mine.M 27), globals := 0, closure := [], defaults := PySem.Value.none, kwdefaults := PySem.Value.none } }
noncomputable def ob360 (P : PySem.Params) : PySem.Obj :=
  { cls := PySem.Value.type "code", data := PySem.Data.fields #[PySem.Value.str (PySem.Str.ofString "set_flags") 590, PySem.Value.str (PySem.Str.ofString "set_flags") 591, PySem.Value.str (PySem.Str.ofString "/claim/cut.py") 592, PySem.Value.int 160 0, PySem.Value.int 3 0, PySem.Value.int 0 0, PySem.Value.int 0 0, PySem.Value.int 3 0, PySem.Value.ref 303, PySem.Value.bool Bool.true, PySem.Value.int 181 0, PySem.Value.ref 304, PySem.Value.none, PySem.Value.ref 305, PySem.Value.ref 306, PySem.Value.ref 307, PySem.Value.int 599 0, PySem.Value.int 160 0, PySem.Value.str (PySem.Str.ofString "/claim/cut.py") 600] }
noncomputable def ob361 (P : PySem.Params) : PySem.Obj :=
  { cls := PySem.Value.type "function", data := PySem.Data.func { name := PySem.Str.ofString "set_flags", qualname := PySem.Str.ofString "set_flags", params := Mine.dArgs (Mine.at_ Mine.M 27), body := PySem.FuncBody.stmts (Mine.dBody (Mine.at_ Mine.M 27)), scope := Mine.dScope (Mine.at_ Mine.M 27), globals := 3, closure := [], defaults := PySem.Value.none, kwdefaults := PySem.Value.none, pyModule := PySem.Value.str (PySem.Str.ofString "postkeep.boxes") 411, code := PySem.Value.ref 308 } }
noncomputable def ob362 (P : PySem.Params) : PySem.Obj :=
  { cls := PySem.Value.type "tuple", data := PySem.Data.seq #[] }
noncomputable def ob363 (P : PySem.Params) : PySem.Obj :=
  { cls := PySem.Value.none, data := PySem.Data.fields #[] }
noncomputable def ob364 (P : PySem.Params) : PySem.Obj :=
  { cls := PySem.Value.type "tuple", data := PySem.Data.seq #[PySem.Value.str (PySem.Str.ofString "pen") 607, PySem.Value.str (PySem.Str.ofString "many") 608, PySem.Value.str (PySem.Str.ofString "spot") 609] }
noncomputable def ob365 (P : PySem.Params) : PySem.Obj :=
  { cls := PySem.Value.type "tuple", data := PySem.Data.seq #[] }
noncomputable def ob366 (P : PySem.Params) : PySem.Obj :=
  { cls := PySem.Value.none, data := PySem.Data.func { name := PySem.Str.ofString "_law_draw", qualname := PySem.Str.ofString "_law_draw", params := Mine.dArgs (Mine.at_ Mine.M 29), body := PySem.FuncBody.stmts (Mine.dBody (Mine.at_ Mine.M 29)), scope := Mine.dScope (Mine.at_ Mine.M 29), globals := 0, closure := [], defaults := PySem.Value.none, kwdefaults := PySem.Value.none } }
noncomputable def ob367 (P : PySem.Params) : PySem.Obj :=
  { cls := PySem.Value.type "code", data := PySem.Data.fields #[PySem.Value.str (PySem.Str.ofString "_law_draw") 604, PySem.Value.str (PySem.Str.ofString "_law_draw") 605, PySem.Value.str (PySem.Str.ofString "/claim/cut.py") 606, PySem.Value.int 171 0, PySem.Value.int 2 0, PySem.Value.int 0 0, PySem.Value.int 0 0, PySem.Value.int 3 0, PySem.Value.ref 310, PySem.Value.bool Bool.true, PySem.Value.int 181 0, PySem.Value.ref 311, PySem.Value.none, PySem.Value.ref 312, PySem.Value.ref 313, PySem.Value.ref 314, PySem.Value.int 610 0, PySem.Value.int 171 0, PySem.Value.str (PySem.Str.ofString "/claim/cut.py") 611] }
noncomputable def ob368 (P : PySem.Params) : PySem.Obj :=
  { cls := PySem.Value.type "function", data := PySem.Data.func { name := PySem.Str.ofString "_law_draw", qualname := PySem.Str.ofString "_law_draw", params := Mine.dArgs (Mine.at_ Mine.M 29), body := PySem.FuncBody.stmts (Mine.dBody (Mine.at_ Mine.M 29)), scope := Mine.dScope (Mine.at_ Mine.M 29), globals := 3, closure := [], defaults := PySem.Value.none, kwdefaults := PySem.Value.none, pyModule := PySem.Value.str (PySem.Str.ofString "law_nz0299_01") 602, code := PySem.Value.ref 315 } }
noncomputable def ob369 (P : PySem.Params) : PySem.Obj :=
  { cls := PySem.Value.type "tuple", data := PySem.Data.seq #[] }
noncomputable def ob370 (P : PySem.Params) : PySem.Obj :=
  { cls := PySem.Value.none, data := PySem.Data.fields #[] }
noncomputable def ob371 (P : PySem.Params) : PySem.Obj :=
  { cls := PySem.Value.type "tuple", data := PySem.Data.seq #[] }
noncomputable def ob372 (P : PySem.Params) : PySem.Obj :=
  { cls := PySem.Value.type "tuple", data := PySem.Data.seq #[] }
noncomputable def ob373 (P : PySem.Params) : PySem.Obj :=
  { cls := PySem.Value.none, data := PySem.Data.func { name := PySem.Str.ofString "_law_flags", qualname := PySem.Str.ofString "_law_flags", params := Mine.dArgs (Mine.at_ Mine.M 30), body := PySem.FuncBody.stmts (Mine.dBody (Mine.at_ Mine.M 30)), scope := Mine.dScope (Mine.at_ Mine.M 30), globals := 0, closure := [], defaults := PySem.Value.none, kwdefaults := PySem.Value.none } }
noncomputable def ob374 (P : PySem.Params) : PySem.Obj :=
  { cls := PySem.Value.type "code", data := PySem.Data.fields #[PySem.Value.str (PySem.Str.ofString "_law_flags") 613, PySem.Value.str (PySem.Str.ofString "_law_flags") 614, PySem.Value.str (PySem.Str.ofString "/claim/cut.py") 615, PySem.Value.int 177 0, PySem.Value.int 0 0, PySem.Value.int 0 0, PySem.Value.int 0 0, PySem.Value.int 3 0, PySem.Value.ref 317, PySem.Value.bool Bool.true, PySem.Value.int 181 0, PySem.Value.ref 318, PySem.Value.none, PySem.Value.ref 319, PySem.Value.ref 320, PySem.Value.ref 321, PySem.Value.int 616 0, PySem.Value.int 177 0, PySem.Value.str (PySem.Str.ofString "/claim/cut.py") 617] }
noncomputable def ob375 (P : PySem.Params) : PySem.Obj :=
  { cls := PySem.Value.type "function", data := PySem.Data.func { name := PySem.Str.ofString "_law_flags", qualname := PySem.Str.ofString "_law_flags", params := Mine.dArgs (Mine.at_ Mine.M 30), body := PySem.FuncBody.stmts (Mine.dBody (Mine.at_ Mine.M 30)), scope := Mine.dScope (Mine.at_ Mine.M 30), globals := 3, closure := [], defaults := PySem.Value.none, kwdefaults := PySem.Value.none, pyModule := PySem.Value.str (PySem.Str.ofString "law_nz0299_01") 602, code := PySem.Value.ref 322 } }
noncomputable def ob376 (P : PySem.Params) : PySem.Obj :=
  { cls := PySem.Value.type "tuple", data := PySem.Data.seq #[] }
noncomputable def ob377 (P : PySem.Params) : PySem.Obj :=
  { cls := PySem.Value.none, data := PySem.Data.fields #[] }
noncomputable def ob378 (P : PySem.Params) : PySem.Obj :=
  { cls := PySem.Value.none, data := PySem.Data.func { name := PySem.Str.ofString "law", qualname := PySem.Str.ofString "law", params := Mine.dArgs (Mine.at_ Mine.M 31), body := PySem.FuncBody.stmts (Mine.dBody (Mine.at_ Mine.M 31)), scope := Mine.dScope (Mine.at_ Mine.M 31), globals := 0, closure := [], defaults := PySem.Value.none, kwdefaults := PySem.Value.none } }
noncomputable def ob379 (P : PySem.Params) : PySem.Obj :=
  { cls := PySem.Value.type "code", data := PySem.Data.fields #[PySem.Value.str (PySem.Str.ofString "law") 619, PySem.Value.str (PySem.Str.ofString "law") 620, PySem.Value.str (PySem.Str.ofString "/claim/cut.py") 621, PySem.Value.int 179 0, PySem.Value.int 1 0, PySem.Value.int 0 0, PySem.Value.int 0 0, PySem.Value.int 3 0, PySem.Value.ref 324, PySem.Value.bool Bool.true, PySem.Value.int 181 0, PySem.Value.ref 325, PySem.Value.none, PySem.Value.none, PySem.Value.none, PySem.Value.ref 326, PySem.Value.int 622 0, PySem.Value.int 179 0, PySem.Value.str (PySem.Str.ofString "/claim/cut.py") 623] }
noncomputable def ob380 (P : PySem.Params) : PySem.Obj :=
  { cls := PySem.Value.type "function", data := PySem.Data.func { name := PySem.Str.ofString "law", qualname := PySem.Str.ofString "law", params := Mine.dArgs (Mine.at_ Mine.M 31), body := PySem.FuncBody.stmts (Mine.dBody (Mine.at_ Mine.M 31)), scope := Mine.dScope (Mine.at_ Mine.M 31), globals := 3, closure := [], defaults := PySem.Value.none, kwdefaults := PySem.Value.none, pyModule := PySem.Value.str (PySem.Str.ofString "law_nz0299_01") 602, code := PySem.Value.ref 327 } }
noncomputable def tr47 (P : PySem.Params) : BT :=
  .node (boot_o_0 P) (.node (boot_o_1 P) (.node (boot_o_3 P) (.node (boot_o_7 P) (.nil) (.nil)) (.node (ob43 P) (.nil) (.nil))) (.node (boot_o_5 P) (.node (boot_o_9 P) (.nil) (.nil)) (.node (ob45 P) (.nil) (.nil)))) (.node (boot_o_2 P) (.node (boot_o_4 P) (.node (boot_o_8 P) (.nil) (.nil)) (.node (ob44 P) (.nil) (.nil))) (.node (boot_o_6 P) (.node (boot_o_10 P) (.nil) (.nil)) (.node (ob46 P) (.nil) (.nil))))
noncomputable def tr140 (P : PySem.Params) : BT :=
  .node (boot_o_0 P) (.node (boot_o_1 P) (.node (ob86 P) (.node (boot_o_7 P) (.node (ob51 P) (.node (ob67 P) (.node (ob101 P) (.nil) (.nil)) (.node (ob133 P) (.nil) (.nil))) (.node (ob83 P) (.node (ob117 P) (.nil) (.nil)) (.nil))) (.node (ob59 P) (.node (ob75 P) (.node (ob109 P) (.nil) (.nil)) (.nil)) (.node (ob93 P) (.node (ob125 P) (.nil) (.nil)) (.nil)))) (.node (ob43 P) (.node (ob55 P) (.node (ob71 P) (.node (ob105 P) (.nil) (.nil)) (.node (ob137 P) (.nil) (.nil))) (.node (ob89 P) (.node (ob121 P) (.nil) (.nil)) (.nil))) (.node (ob63 P) (.node (ob79 P) (.node (ob113 P) (.nil) (.nil)) (.nil)) (.node (ob97 P) (.node (ob129 P) (.nil) (.nil)) (.nil))))) (.node (boot_o_5 P) (.node (boot_o_9 P) (.node (ob53 P) (.node (ob69 P) (.node (ob103 P) (.nil) (.nil)) (.node (ob135 P) (.nil) (.nil))) (.node (ob85 P) (.node (ob119 P) (.nil) (.nil)) (.nil))) (.node (ob61 P) (.node (ob77 P) (.node (ob111 P) (.nil) (.nil)) (.nil)) (.node (ob95 P) (.node (ob127 P) (.nil) (.nil)) (.nil)))) (.node (ob45 P) (.node (ob57 P) (.node (ob73 P) (.node (ob107 P) (.nil) (.nil)) (.node (ob139 P) (.nil) (.nil))) (.node (ob91 P) (.node (ob123 P) (.nil) (.nil)) (.nil))) (.node (ob65 P) (.node (ob81 P) (.node (ob115 P) (.nil) (.nil)) (.nil)) (.node (ob99 P) (.node (ob131 P) (.nil) (.nil)) (.nil)))))) (.node (boot_o_2 P) (.node (boot_o_4 P) (.node (boot_o_8 P) (.node (ob52 P) (.node (ob68 P) (.node (ob102 P) (.nil) (.nil)) (.node (ob134 P) (.nil) (.nil))) (.node (ob84 P) (.node (ob118 P) (.nil) (.nil)) (.nil))) (.node (ob60 P) (.node (ob76 P) (.node (ob110 P) (.nil) (.nil)) (.nil)) (.node (ob94 P) (.node (ob126 P) (.nil) (.nil)) (.nil)))) (.node (ob87 P) (.node (ob56 P) (.node (ob72 P) (.node (ob106 P) (.nil) (.nil)) (.node (ob138 P) (.nil) (.nil))) (.node (ob90 P) (.node (ob122 P) (.nil) (.nil)) (.nil))) (.node (ob64 P) (.node (ob80 P) (.node (ob114 P) (.nil) (.nil)) (.nil)) (.node (ob98 P) (.node (ob130 P) (.nil) (.nil)) (.nil))))) (.node (boot_o_6 P) (.node (boot_o_10 P) (.node (ob54 P) (.node (ob70 P) (.node (ob104 P) (.nil) (.nil)) (.node (ob136 P) (.nil) (.nil))) (.node (ob88 P) (.node (ob120 P) (.nil) (.nil)) (.nil))) (.node (ob62 P) (.node (ob78 P) (.node (ob112 P) (.nil) (.nil)) (.nil)) (.node (ob96 P) (.node (ob128 P) (.nil) (.nil)) (.nil)))) (.node (ob46 P) (.node (ob58 P) (.node (ob74 P) (.node (ob108 P) (.nil) (.nil)) (.node (ob140 P) (.nil) (.nil))) (.node (ob92 P) (.node (ob124 P) (.nil) (.nil)) (.nil))) (.node (ob66 P) (.node (ob82 P) (.node (ob116 P) (.nil) (.nil)) (.nil)) (.node (ob100 P) (.node (ob132 P) (.nil) (.nil)) (.nil))))))
noncomputable def tr254 (P : PySem.Params) : BT :=
  .node (boot_o_0 P) (.node (boot_o_1 P) (.node (ob212 P) (.node (boot_o_7 P) (.node (ob51 P) (.node (ob67 P) (.node (ob101 P) (.node (ob167 P) (.nil) (.nil)) (.node (ob237 P) (.nil) (.nil))) (.node (ob133 P) (.node (ob202 P) (.nil) (.nil)) (.nil))) (.node (ob83 P) (.node (ob117 P) (.node (ob186 P) (.nil) (.nil)) (.node (ob253 P) (.nil) (.nil))) (.node (ob151 P) (.node (ob221 P) (.nil) (.nil)) (.nil)))) (.node (ob59 P) (.node (ob75 P) (.node (ob109 P) (.node (ob175 P) (.nil) (.nil)) (.node (ob245 P) (.nil) (.nil))) (.node (ob143 P) (.node (ob210 P) (.nil) (.nil)) (.nil))) (.node (ob93 P) (.node (ob125 P) (.node (ob194 P) (.nil) (.nil)) (.nil)) (.node (ob159 P) (.node (ob229 P) (.nil) (.nil)) (.nil))))) (.node (ob43 P) (.node (ob55 P) (.node (ob71 P) (.node (ob105 P) (.node (ob171 P) (.nil) (.nil)) (.node (ob241 P) (.nil) (.nil))) (.node (ob137 P) (.node (ob206 P) (.nil) (.nil)) (.nil))) (.node (ob89 P) (.node (ob121 P) (.node (ob190 P) (.nil) (.nil)) (.nil)) (.node (ob155 P) (.node (ob225 P) (.nil) (.nil)) (.nil)))) (.node (ob63 P) (.node (ob79 P) (.node (ob113 P) (.node (ob179 P) (.nil) (.nil)) (.node (ob249 P) (.nil) (.nil))) (.node (ob147 P) (.node (ob217 P) (.nil) (.nil)) (.nil))) (.node (ob97 P) (.node (ob129 P) (.node (ob198 P) (.nil) (.nil)) (.nil)) (.node (ob163 P) (.node (ob233 P) (.nil) (.nil)) (.nil)))))) (.node (boot_o_5 P) (.node (boot_o_9 P) (.node (ob53 P) (.node (ob69 P) (.node (ob103 P) (.node (ob169 P) (.nil) (.nil)) (.node (ob239 P) (.nil) (.nil))) (.node (ob135 P) (.node (ob204 P) (.nil) (.nil)) (.nil))) (.node (ob85 P) (.node (ob119 P) (.node (ob188 P) (.nil) (.nil)) (.nil)) (.node (ob153 P) (.node (ob223 P) (.nil) (.nil)) (.nil)))) (.node (ob61 P) (.node (ob77 P) (.node (ob111 P) (.node (ob177 P) (.nil) (.nil)) (.node (ob247 P) (.nil) (.nil))) (.node (ob145 P) (.node (ob215 P) (.nil) (.nil)) (.nil))) (.node (ob95 P) (.node (ob127 P) (.node (ob196 P) (.nil) (.nil)) (.nil)) (.node (ob161 P) (.node (ob231 P) (.nil) (.nil)) (.nil))))) (.node (ob45 P) (.node (ob57 P) (.node (ob73 P) (.node (ob107 P) (.node (ob173 P) (.nil) (.nil)) (.node (ob243 P) (.nil) (.nil))) (.node (ob139 P) (.node (ob214 P) (.nil) (.nil)) (.nil))) (.node (ob91 P) (.node (ob123 P) (.node (ob192 P) (.nil) (.nil)) (.nil)) (.node (ob157 P) (.node (ob227 P) (.nil) (.nil)) (.nil)))) (.node (ob65 P) (.node (ob81 P) (.node (ob115 P) (.node (ob184 P) (.nil) (.nil)) (.node (ob251 P) (.nil) (.nil))) (.node (ob149 P) (.node (ob219 P) (.nil) (.nil)) (.nil))) (.node (ob99 P) (.node (ob131 P) (.node (ob200 P) (.nil) (.nil)) (.nil)) (.node (ob165 P) (.node (ob235 P) (.nil) (.nil)) (.nil))))))) (.node (ob181 P) (.node (boot_o_4 P) (.node (boot_o_8 P) (.node (ob52 P) (.node (ob68 P) (.node (ob102 P) (.node (ob168 P) (.nil) (.nil)) (.node (ob238 P) (.nil) (.nil))) (.node (ob134 P) (.node (ob203 P) (.nil) (.nil)) (.nil))) (.node (ob84 P) (.node (ob118 P) (.node (ob187 P) (.nil) (.nil)) (.node (ob254 P) (.nil) (.nil))) (.node (ob152 P) (.node (ob222 P) (.nil) (.nil)) (.nil)))) (.node (ob60 P) (.node (ob76 P) (.node (ob110 P) (.node (ob176 P) (.nil) (.nil)) (.node (ob246 P) (.nil) (.nil))) (.node (ob144 P) (.node (ob211 P) (.nil) (.nil)) (.nil))) (.node (ob94 P) (.node (ob126 P) (.node (ob195 P) (.nil) (.nil)) (.nil)) (.node (ob160 P) (.node (ob230 P) (.nil) (.nil)) (.nil))))) (.node (ob213 P) (.node (ob56 P) (.node (ob72 P) (.node (ob106 P) (.node (ob172 P) (.nil) (.nil)) (.node (ob242 P) (.nil) (.nil))) (.node (ob138 P) (.node (ob207 P) (.nil) (.nil)) (.nil))) (.node (ob90 P) (.node (ob122 P) (.node (ob191 P) (.nil) (.nil)) (.nil)) (.node (ob156 P) (.node (ob226 P) (.nil) (.nil)) (.nil)))) (.node (ob64 P) (.node (ob80 P) (.node (ob114 P) (.node (ob180 P) (.nil) (.nil)) (.node (ob250 P) (.nil) (.nil))) (.node (ob148 P) (.node (ob218 P) (.nil) (.nil)) (.nil))) (.node (ob98 P) (.node (ob130 P) (.node (ob199 P) (.nil) (.nil)) (.nil)) (.node (ob164 P) (.node (ob234 P) (.nil) (.nil)) (.nil)))))) (.node (boot_o_6 P) (.node (boot_o_10 P) (.node (ob54 P) (.node (ob70 P) (.node (ob104 P) (.node (ob170 P) (.nil) (.nil)) (.node (ob240 P) (.nil) (.nil))) (.node (ob136 P) (.node (ob205 P) (.nil) (.nil)) (.nil))) (.node (ob88 P) (.node (ob120 P) (.node (ob189 P) (.nil) (.nil)) (.nil)) (.node (ob154 P) (.node (ob224 P) (.nil) (.nil)) (.nil)))) (.node (ob62 P) (.node (ob78 P) (.node (ob112 P) (.node (ob178 P) (.nil) (.nil)) (.node (ob248 P) (.nil) (.nil))) (.node (ob146 P) (.node (ob216 P) (.nil) (.nil)) (.nil))) (.node (ob96 P) (.node (ob128 P) (.node (ob197 P) (.nil) (.nil)) (.nil)) (.node (ob162 P) (.node (ob232 P) (.nil) (.nil)) (.nil))))) (.node (ob46 P) (.node (ob58 P) (.node (ob74 P) (.node (ob108 P) (.node (ob174 P) (.nil) (.nil)) (.node (ob244 P) (.nil) (.nil))) (.node (ob140 P) (.node (ob209 P) (.nil) (.nil)) (.nil))) (.node (ob92 P) (.node (ob124 P) (.node (ob193 P) (.nil) (.nil)) (.nil)) (.node (ob158 P) (.node (ob228 P) (.nil) (.nil)) (.nil)))) (.node (ob66 P) (.node (ob82 P) (.node (ob116 P) (.node (ob185 P) (.nil) (.nil)) (.node (ob252 P) (.nil) (.nil))) (.node (ob150 P) (.node (ob220 P) (.nil) (.nil)) (.nil))) (.node (ob100 P) (.node (ob132 P) (.node (ob201 P) (.nil) (.nil)) (.nil)) (.node (ob166 P) (.node (ob236 P) (.nil) (.nil)) (.nil)))))))
noncomputable def tr380 (P : PySem.Params) : BT :=
  .node (boot_o_0 P) (.node (boot_o_1 P) (.node (ob346 P) (.node (boot_o_7 P) (.node (ob51 P) (.node (ob67 P) (.node (ob101 P) (.node (ob167 P) (.node (ob305 P) (.nil) (.nil)) (.nil)) (.node (ob237 P) (.node (ob371 P) (.nil) (.nil)) (.nil))) (.node (ob133 P) (.node (ob202 P) (.node (ob337 P) (.nil) (.nil)) (.nil)) (.node (ob271 P) (.nil) (.nil)))) (.node (ob83 P) (.node (ob117 P) (.node (ob186 P) (.node (ob321 P) (.nil) (.nil)) (.nil)) (.node (ob253 P) (.nil) (.nil))) (.node (ob151 P) (.node (ob221 P) (.node (ob355 P) (.nil) (.nil)) (.nil)) (.node (ob287 P) (.nil) (.nil))))) (.node (ob59 P) (.node (ob75 P) (.node (ob109 P) (.node (ob175 P) (.node (ob313 P) (.nil) (.nil)) (.nil)) (.node (ob245 P) (.node (ob379 P) (.nil) (.nil)) (.nil))) (.node (ob143 P) (.node (ob210 P) (.node (ob345 P) (.nil) (.nil)) (.nil)) (.node (ob279 P) (.nil) (.nil)))) (.node (ob93 P) (.node (ob125 P) (.node (ob194 P) (.node (ob329 P) (.nil) (.nil)) (.nil)) (.node (ob263 P) (.nil) (.nil))) (.node (ob159 P) (.node (ob229 P) (.node (ob363 P) (.nil) (.nil)) (.nil)) (.node (ob297 P) (.nil) (.nil)))))) (.node (ob43 P) (.node (ob55 P) (.node (ob71 P) (.node (ob105 P) (.node (ob171 P) (.node (ob309 P) (.nil) (.nil)) (.nil)) (.node (ob241 P) (.node (ob375 P) (.nil) (.nil)) (.nil))) (.node (ob137 P) (.node (ob206 P) (.node (ob341 P) (.nil) (.nil)) (.nil)) (.node (ob275 P) (.nil) (.nil)))) (.node (ob89 P) (.node (ob121 P) (.node (ob190 P) (.node (ob325 P) (.nil) (.nil)) (.nil)) (.node (ob259 P) (.nil) (.nil))) (.node (ob155 P) (.node (ob225 P) (.node (ob359 P) (.nil) (.nil)) (.nil)) (.node (ob291 P) (.nil) (.nil))))) (.node (ob63 P) (.node (ob79 P) (.node (ob113 P) (.node (ob179 P) (.node (ob317 P) (.nil) (.nil)) (.nil)) (.node (ob249 P) (.nil) (.nil))) (.node (ob147 P) (.node (ob217 P) (.node (ob351 P) (.nil) (.nil)) (.nil)) (.node (ob283 P) (.nil) (.nil)))) (.node (ob97 P) (.node (ob129 P) (.node (ob198 P) (.node (ob333 P) (.nil) (.nil)) (.nil)) (.node (ob267 P) (.nil) (.nil))) (.node (ob163 P) (.node (ob233 P) (.node (ob367 P) (.nil) (.nil)) (.nil)) (.node (ob301 P) (.nil) (.nil))))))) (.node (boot_o_5 P) (.node (boot_o_9 P) (.node (ob53 P) (.node (ob69 P) (.node (ob103 P) (.node (ob169 P) (.node (ob307 P) (.nil) (.nil)) (.nil)) (.node (ob239 P) (.node (ob373 P) (.nil) (.nil)) (.nil))) (.node (ob135 P) (.node (ob204 P) (.node (ob339 P) (.nil) (.nil)) (.nil)) (.node (ob273 P) (.nil) (.nil)))) (.node (ob85 P) (.node (ob119 P) (.node (ob188 P) (.node (ob323 P) (.nil) (.nil)) (.nil)) (.node (ob257 P) (.nil) (.nil))) (.node (ob153 P) (.node (ob223 P) (.node (ob357 P) (.nil) (.nil)) (.nil)) (.node (ob289 P) (.nil) (.nil))))) (.node (ob61 P) (.node (ob77 P) (.node (ob111 P) (.node (ob177 P) (.node (ob315 P) (.nil) (.nil)) (.nil)) (.node (ob247 P) (.nil) (.nil))) (.node (ob145 P) (.node (ob215 P) (.node (ob349 P) (.nil) (.nil)) (.nil)) (.node (ob281 P) (.nil) (.nil)))) (.node (ob95 P) (.node (ob127 P) (.node (ob196 P) (.node (ob331 P) (.nil) (.nil)) (.nil)) (.node (ob265 P) (.nil) (.nil))) (.node (ob161 P) (.node (ob231 P) (.node (ob365 P) (.nil) (.nil)) (.nil)) (.node (ob299 P) (.nil) (.nil)))))) (.node (ob45 P) (.node (ob57 P) (.node (ob73 P) (.node (ob107 P) (.node (ob173 P) (.node (ob311 P) (.nil) (.nil)) (.nil)) (.node (ob243 P) (.node (ob377 P) (.nil) (.nil)) (.nil))) (.node (ob139 P) (.node (ob214 P) (.node (ob343 P) (.nil) (.nil)) (.nil)) (.node (ob277 P) (.nil) (.nil)))) (.node (ob91 P) (.node (ob123 P) (.node (ob192 P) (.node (ob327 P) (.nil) (.nil)) (.nil)) (.node (ob261 P) (.nil) (.nil))) (.node (ob157 P) (.node (ob227 P) (.node (ob361 P) (.nil) (.nil)) (.nil)) (.node (ob295 P) (.nil) (.nil))))) (.node (ob65 P) (.node (ob81 P) (.node (ob115 P) (.node (ob184 P) (.node (ob319 P) (.nil) (.nil)) (.nil)) (.node (ob251 P) (.nil) (.nil))) (.node (ob149 P) (.node (ob219 P) (.node (ob353 P) (.nil) (.nil)) (.nil)) (.node (ob285 P) (.nil) (.nil)))) (.node (ob99 P) (.node (ob131 P) (.node (ob200 P) (.node (ob335 P) (.nil) (.nil)) (.nil)) (.node (ob269 P) (.nil) (.nil))) (.node (ob165 P) (.node (ob235 P) (.node (ob369 P) (.nil) (.nil)) (.nil)) (.node (ob303 P) (.nil) (.nil)))))))) (.node (ob181 P) (.node (boot_o_4 P) (.node (boot_o_8 P) (.node (ob52 P) (.node (ob68 P) (.node (ob102 P) (.node (ob168 P) (.node (ob306 P) (.nil) (.nil)) (.nil)) (.node (ob238 P) (.node (ob372 P) (.nil) (.nil)) (.nil))) (.node (ob134 P) (.node (ob203 P) (.node (ob338 P) (.nil) (.nil)) (.nil)) (.node (ob272 P) (.nil) (.nil)))) (.node (ob84 P) (.node (ob118 P) (.node (ob187 P) (.node (ob322 P) (.nil) (.nil)) (.nil)) (.node (ob254 P) (.nil) (.nil))) (.node (ob152 P) (.node (ob222 P) (.node (ob356 P) (.nil) (.nil)) (.nil)) (.node (ob288 P) (.nil) (.nil))))) (.node (ob60 P) (.node (ob76 P) (.node (ob110 P) (.node (ob176 P) (.node (ob314 P) (.nil) (.nil)) (.nil)) (.node (ob246 P) (.node (ob380 P) (.nil) (.nil)) (.nil))) (.node (ob144 P) (.node (ob211 P) (.node (ob348 P) (.nil) (.nil)) (.nil)) (.node (ob280 P) (.nil) (.nil)))) (.node (ob94 P) (.node (ob126 P) (.node (ob195 P) (.node (ob330 P) (.nil) (.nil)) (.nil)) (.node (ob264 P) (.nil) (.nil))) (.node (ob160 P) (.node (ob230 P) (.node (ob364 P) (.nil) (.nil)) (.nil)) (.node (ob298 P) (.nil) (.nil)))))) (.node (ob347 P) (.node (ob56 P) (.node (ob72 P) (.node (ob106 P) (.node (ob172 P) (.node (ob310 P) (.nil) (.nil)) (.nil)) (.node (ob242 P) (.node (ob376 P) (.nil) (.nil)) (.nil))) (.node (ob138 P) (.node (ob207 P) (.node (ob342 P) (.nil) (.nil)) (.nil)) (.node (ob276 P) (.nil) (.nil)))) (.node (ob90 P) (.node (ob122 P) (.node (ob191 P) (.node (ob326 P) (.nil) (.nil)) (.nil)) (.node (ob260 P) (.nil) (.nil))) (.node (ob156 P) (.node (ob226 P) (.node (ob360 P) (.nil) (.nil)) (.nil)) (.node (ob294 P) (.nil) (.nil))))) (.node (ob64 P) (.node (ob80 P) (.node (ob114 P) (.node (ob180 P) (.node (ob318 P) (.nil) (.nil)) (.nil)) (.node (ob250 P) (.nil) (.nil))) (.node (ob148 P) (.node (ob218 P) (.node (ob352 P) (.nil) (.nil)) (.nil)) (.node (ob284 P) (.nil) (.nil)))) (.node (ob98 P) (.node (ob130 P) (.node (ob199 P) (.node (ob334 P) (.nil) (.nil)) (.nil)) (.node (ob268 P) (.nil) (.nil))) (.node (ob164 P) (.node (ob234 P) (.node (ob368 P) (.nil) (.nil)) (.nil)) (.node (ob302 P) (.nil) (.nil))))))) (.node (boot_o_6 P) (.node (boot_o_10 P) (.node (ob54 P) (.node (ob70 P) (.node (ob104 P) (.node (ob170 P) (.node (ob308 P) (.nil) (.nil)) (.nil)) (.node (ob240 P) (.node (ob374 P) (.nil) (.nil)) (.nil))) (.node (ob136 P) (.node (ob205 P) (.node (ob340 P) (.nil) (.nil)) (.nil)) (.node (ob274 P) (.nil) (.nil)))) (.node (ob88 P) (.node (ob120 P) (.node (ob189 P) (.node (ob324 P) (.nil) (.nil)) (.nil)) (.node (ob258 P) (.nil) (.nil))) (.node (ob154 P) (.node (ob224 P) (.node (ob358 P) (.nil) (.nil)) (.nil)) (.node (ob290 P) (.nil) (.nil))))) (.node (ob62 P) (.node (ob78 P) (.node (ob112 P) (.node (ob178 P) (.node (ob316 P) (.nil) (.nil)) (.nil)) (.node (ob248 P) (.nil) (.nil))) (.node (ob146 P) (.node (ob216 P) (.node (ob350 P) (.nil) (.nil)) (.nil)) (.node (ob282 P) (.nil) (.nil)))) (.node (ob96 P) (.node (ob128 P) (.node (ob197 P) (.node (ob332 P) (.nil) (.nil)) (.nil)) (.node (ob266 P) (.nil) (.nil))) (.node (ob162 P) (.node (ob232 P) (.node (ob366 P) (.nil) (.nil)) (.nil)) (.node (ob300 P) (.nil) (.nil)))))) (.node (ob46 P) (.node (ob58 P) (.node (ob74 P) (.node (ob108 P) (.node (ob174 P) (.node (ob312 P) (.nil) (.nil)) (.nil)) (.node (ob244 P) (.node (ob378 P) (.nil) (.nil)) (.nil))) (.node (ob140 P) (.node (ob209 P) (.node (ob344 P) (.nil) (.nil)) (.nil)) (.node (ob278 P) (.nil) (.nil)))) (.node (ob92 P) (.node (ob124 P) (.node (ob193 P) (.node (ob328 P) (.nil) (.nil)) (.nil)) (.node (ob262 P) (.nil) (.nil))) (.node (ob158 P) (.node (ob228 P) (.node (ob362 P) (.nil) (.nil)) (.nil)) (.node (ob296 P) (.nil) (.nil))))) (.node (ob66 P) (.node (ob82 P) (.node (ob116 P) (.node (ob185 P) (.node (ob320 P) (.nil) (.nil)) (.nil)) (.node (ob252 P) (.nil) (.nil))) (.node (ob150 P) (.node (ob220 P) (.node (ob354 P) (.nil) (.nil)) (.nil)) (.node (ob286 P) (.nil) (.nil)))) (.node (ob100 P) (.node (ob132 P) (.node (ob201 P) (.node (ob336 P) (.nil) (.nil)) (.nil)) (.node (ob270 P) (.nil) (.nil))) (.node (ob166 P) (.node (ob236 P) (.node (ob370 P) (.nil) (.nil)) (.nil)) (.node (ob304 P) (.nil) (.nil))))))))
noncomputable def hp46 (P : PySem.Params) : PySem.Heap :=
  ⟨⟨boot_o_0 P :: boot_o_1 P :: boot_o_2 P :: boot_o_3 P :: boot_o_4 P :: boot_o_5 P :: boot_o_6 P :: boot_o_7 P :: boot_o_8 P :: boot_o_9 P :: boot_o_10 P :: ob43 P :: ob44 P :: ob45 P :: ob46 P :: []⟩, lifeK⟩
noncomputable def hp381 (P : PySem.Params) : PySem.Heap :=
  ⟨⟨boot_o_0 P :: boot_o_1 P :: ob181 P :: ob346 P :: boot_o_4 P :: boot_o_5 P :: boot_o_6 P :: boot_o_7 P :: boot_o_8 P :: boot_o_9 P :: boot_o_10 P :: ob43 P :: ob347 P :: ob45 P :: ob46 P :: ob51 P :: ob52 P :: ob53 P :: ob54 P :: ob55 P :: ob56 P :: ob57 P :: ob58 P :: ob59 P :: ob60 P :: ob61 P :: ob62 P :: ob63 P :: ob64 P :: ob65 P :: ob66 P :: ob67 P :: ob68 P :: ob69 P :: ob70 P :: ob71 P :: ob72 P :: ob73 P :: ob74 P :: ob75 P :: ob76 P :: ob77 P :: ob78 P :: ob79 P :: ob80 P :: ob81 P :: ob82 P :: ob83 P :: ob84 P :: ob85 P :: ob88 P :: ob89 P :: ob90 P :: ob91 P :: ob92 P :: ob93 P :: ob94 P :: ob95 P :: ob96 P :: ob97 P :: ob98 P :: ob99 P :: ob100 P :: ob101 P :: ob102 P :: ob103 P :: ob104 P :: ob105 P :: ob106 P :: ob107 P :: ob108 P :: ob109 P :: ob110 P :: ob111 P :: ob112 P :: ob113 P :: ob114 P :: ob115 P :: ob116 P :: ob117 P :: ob118 P :: ob119 P :: ob120 P :: ob121 P :: ob122 P :: ob123 P :: ob124 P :: ob125 P :: ob126 P :: ob127 P :: ob128 P :: ob129 P :: ob130 P :: ob131 P :: ob132 P :: ob133 P :: ob134 P :: ob135 P :: ob136 P :: ob137 P :: ob138 P :: ob139 P :: ob140 P :: ob143 P :: ob144 P :: ob145 P :: ob146 P :: ob147 P :: ob148 P :: ob149 P :: ob150 P :: ob151 P :: ob152 P :: ob153 P :: ob154 P :: ob155 P :: ob156 P :: ob157 P :: ob158 P :: ob159 P :: ob160 P :: ob161 P :: ob162 P :: ob163 P :: ob164 P :: ob165 P :: ob166 P :: ob167 P :: ob168 P :: ob169 P :: ob170 P :: ob171 P :: ob172 P :: ob173 P :: ob174 P :: ob175 P :: ob176 P :: ob177 P :: ob178 P :: ob179 P :: ob180 P :: ob184 P :: ob185 P :: ob186 P :: ob187 P :: ob188 P :: ob189 P :: ob190 P :: ob191 P :: ob192 P :: ob193 P :: ob194 P :: ob195 P :: ob196 P :: ob197 P :: ob198 P :: ob199 P :: ob200 P :: ob201 P :: ob202 P :: ob203 P :: ob204 P :: ob205 P :: ob206 P :: ob207 P :: ob214 P :: ob209 P :: ob210 P :: ob211 P :: ob215 P :: ob216 P :: ob217 P :: ob218 P :: ob219 P :: ob220 P :: ob221 P :: ob222 P :: ob223 P :: ob224 P :: ob225 P :: ob226 P :: ob227 P :: ob228 P :: ob229 P :: ob230 P :: ob231 P :: ob232 P :: ob233 P :: ob234 P :: ob235 P :: ob236 P :: ob237 P :: ob238 P :: ob239 P :: ob240 P :: ob241 P :: ob242 P :: ob243 P :: ob244 P :: ob245 P :: ob246 P :: ob247 P :: ob248 P :: ob249 P :: ob250 P :: ob251 P :: ob252 P :: ob253 P :: ob254 P :: ob257 P :: ob258 P :: ob259 P :: ob260 P :: ob261 P :: ob262 P :: ob263 P :: ob264 P :: ob265 P :: ob266 P :: ob267 P :: ob268 P :: ob269 P :: ob270 P :: ob271 P :: ob272 P :: ob273 P :: ob274 P :: ob275 P :: ob276 P :: ob277 P :: ob278 P :: ob279 P :: ob280 P :: ob281 P :: ob282 P :: ob283 P :: ob284 P :: ob285 P :: ob286 P :: ob287 P :: ob288 P :: ob289 P :: ob290 P :: ob291 P :: ob294 P :: ob295 P :: ob296 P :: ob297 P :: ob298 P :: ob299 P :: ob300 P :: ob301 P :: ob302 P :: ob303 P :: ob304 P :: ob305 P :: ob306 P :: ob307 P :: ob308 P :: ob309 P :: ob310 P :: ob311 P :: ob312 P :: ob313 P :: ob314 P :: ob315 P :: ob316 P :: ob317 P :: ob318 P :: ob319 P :: ob320 P :: ob321 P :: ob322 P :: ob323 P :: ob324 P :: ob325 P :: ob326 P :: ob327 P :: ob328 P :: ob329 P :: ob330 P :: ob331 P :: ob332 P :: ob333 P :: ob334 P :: ob335 P :: ob336 P :: ob337 P :: ob338 P :: ob339 P :: ob340 P :: ob341 P :: ob342 P :: ob343 P :: ob344 P :: ob345 P :: ob348 P :: ob349 P :: ob350 P :: ob351 P :: ob352 P :: ob353 P :: ob354 P :: ob355 P :: ob356 P :: ob357 P :: ob358 P :: ob359 P :: ob360 P :: ob361 P :: ob362 P :: ob363 P :: ob364 P :: ob365 P :: ob366 P :: ob367 P :: ob368 P :: ob369 P :: ob370 P :: ob371 P :: ob372 P :: ob373 P :: ob374 P :: ob375 P :: ob376 P :: ob377 P :: ob378 P :: ob379 P :: ob380 P :: []⟩, lifeK⟩
noncomputable def heapK (P : PySem.Params) : Frag := (nat_lit 2, ob181 P) :: (nat_lit 3, ob346 P) :: (nat_lit 15, ob51 P) :: (nat_lit 17, ob53 P) :: (nat_lit 18, ob54 P) :: (nat_lit 20, ob56 P) :: (nat_lit 21, ob57 P) :: (nat_lit 29, ob65 P) :: (nat_lit 31, ob67 P) :: (nat_lit 32, ob68 P) :: (nat_lit 34, ob70 P) :: (nat_lit 35, ob71 P) :: (nat_lit 36, ob72 P) :: (nat_lit 38, ob74 P) :: (nat_lit 39, ob75 P) :: (nat_lit 41, ob77 P) :: (nat_lit 42, ob78 P) :: (nat_lit 43, ob79 P) :: (nat_lit 44, ob80 P) :: (nat_lit 45, ob81 P) :: (nat_lit 46, ob82 P) :: (nat_lit 47, ob83 P) :: (nat_lit 57, ob95 P) :: (nat_lit 58, ob96 P) :: (nat_lit 61, ob99 P) :: (nat_lit 62, ob100 P) :: (nat_lit 63, ob101 P) :: (nat_lit 65, ob103 P) :: (nat_lit 66, ob104 P) :: (nat_lit 68, ob106 P) :: (nat_lit 69, ob107 P) :: (nat_lit 70, ob108 P) :: (nat_lit 72, ob110 P) :: (nat_lit 73, ob111 P) :: (nat_lit 75, ob113 P) :: (nat_lit 76, ob114 P) :: (nat_lit 77, ob115 P) :: (nat_lit 79, ob117 P) :: (nat_lit 80, ob118 P) :: (nat_lit 82, ob120 P) :: (nat_lit 83, ob121 P) :: (nat_lit 84, ob122 P) :: (nat_lit 86, ob124 P) :: (nat_lit 87, ob125 P) :: (nat_lit 89, ob127 P) :: (nat_lit 90, ob128 P) :: (nat_lit 91, ob129 P) :: (nat_lit 94, ob132 P) :: (nat_lit 95, ob133 P) :: (nat_lit 96, ob134 P) :: (nat_lit 97, ob135 P) :: (nat_lit 98, ob136 P) :: (nat_lit 99, ob137 P) :: (nat_lit 100, ob138 P) :: (nat_lit 103, ob143 P) :: (nat_lit 105, ob145 P) :: (nat_lit 106, ob146 P) :: (nat_lit 108, ob148 P) :: (nat_lit 109, ob149 P) :: (nat_lit 110, ob150 P) :: (nat_lit 112, ob152 P) :: (nat_lit 113, ob153 P) :: (nat_lit 115, ob155 P) :: (nat_lit 116, ob156 P) :: (nat_lit 117, ob157 P) :: (nat_lit 119, ob159 P) :: (nat_lit 120, ob160 P) :: (nat_lit 122, ob162 P) :: (nat_lit 123, ob163 P) :: (nat_lit 124, ob164 P) :: (nat_lit 127, ob167 P) :: (nat_lit 128, ob168 P) :: (nat_lit 129, ob169 P) :: (nat_lit 131, ob171 P) :: (nat_lit 132, ob172 P) :: (nat_lit 134, ob174 P) :: (nat_lit 135, ob175 P) :: (nat_lit 136, ob176 P) :: (nat_lit 139, ob179 P) :: (nat_lit 140, ob180 P) :: (nat_lit 141, ob184 P) :: (nat_lit 148, ob191 P) :: (nat_lit 149, ob192 P) :: (nat_lit 151, ob194 P) :: (nat_lit 152, ob195 P) :: (nat_lit 154, ob197 P) :: (nat_lit 155, ob198 P) :: (nat_lit 156, ob199 P) :: (nat_lit 158, ob201 P) :: (nat_lit 159, ob202 P) :: (nat_lit 161, ob204 P) :: (nat_lit 162, ob205 P) :: (nat_lit 163, ob206 P) :: (nat_lit 164, ob207 P) :: (nat_lit 165, ob214 P) :: (nat_lit 166, ob209 P) :: (nat_lit 169, ob215 P) :: (nat_lit 176, ob222 P) :: (nat_lit 177, ob223 P) :: (nat_lit 178, ob224 P) :: (nat_lit 181, ob227 P) :: (nat_lit 183, ob229 P) :: (nat_lit 184, ob230 P) :: (nat_lit 186, ob232 P) :: (nat_lit 187, ob233 P) :: (nat_lit 188, ob234 P) :: (nat_lit 190, ob236 P) :: (nat_lit 191, ob237 P) :: (nat_lit 193, ob239 P) :: (nat_lit 194, ob240 P) :: (nat_lit 195, ob241 P) :: (nat_lit 197, ob243 P) :: (nat_lit 198, ob244 P) :: (nat_lit 200, ob246 P) :: (nat_lit 201, ob247 P) :: (nat_lit 202, ob248 P) :: (nat_lit 204, ob250 P) :: (nat_lit 205, ob251 P) :: (nat_lit 207, ob253 P) :: (nat_lit 208, ob254 P) :: (nat_lit 216, ob264 P) :: (nat_lit 218, ob266 P) :: (nat_lit 219, ob267 P) :: (nat_lit 221, ob269 P) :: (nat_lit 222, ob270 P) :: (nat_lit 223, ob271 P) :: (nat_lit 225, ob273 P) :: (nat_lit 226, ob274 P) :: (nat_lit 228, ob276 P) :: (nat_lit 229, ob277 P) :: (nat_lit 230, ob278 P) :: (nat_lit 232, ob280 P) :: (nat_lit 233, ob281 P) :: (nat_lit 235, ob283 P) :: (nat_lit 236, ob284 P) :: (nat_lit 237, ob285 P) :: (nat_lit 238, ob286 P) :: (nat_lit 239, ob287 P) :: (nat_lit 240, ob288 P) :: (nat_lit 241, ob289 P) :: (nat_lit 251, ob301 P) :: (nat_lit 253, ob303 P) :: (nat_lit 254, ob304 P) :: (nat_lit 256, ob306 P) :: (nat_lit 257, ob307 P) :: (nat_lit 258, ob308 P) :: (nat_lit 260, ob310 P) :: (nat_lit 261, ob311 P) :: (nat_lit 263, ob313 P) :: (nat_lit 264, ob314 P) :: (nat_lit 265, ob315 P) :: (nat_lit 268, ob318 P) :: (nat_lit 269, ob319 P) :: (nat_lit 270, ob320 P) :: (nat_lit 273, ob323 P) :: (nat_lit 274, ob324 P) :: (nat_lit 275, ob325 P) :: (nat_lit 276, ob326 P) :: (nat_lit 277, ob327 P) :: (nat_lit 278, ob328 P) :: (nat_lit 279, ob329 P) :: (nat_lit 282, ob332 P) :: (nat_lit 284, ob334 P) :: (nat_lit 285, ob335 P) :: (nat_lit 287, ob337 P) :: (nat_lit 288, ob338 P) :: (nat_lit 289, ob339 P) :: (nat_lit 291, ob341 P) :: (nat_lit 292, ob342 P) :: (nat_lit 294, ob344 P) :: (nat_lit 295, ob345 P) :: (nat_lit 296, ob348 P) :: (nat_lit 298, ob350 P) :: (nat_lit 299, ob351 P) :: (nat_lit 301, ob353 P) :: (nat_lit 302, ob354 P) :: (nat_lit 303, ob355 P) :: (nat_lit 305, ob357 P) :: (nat_lit 306, ob358 P) :: (nat_lit 308, ob360 P) :: (nat_lit 309, ob361 P) :: (nat_lit 310, ob362 P) :: (nat_lit 312, ob364 P) :: (nat_lit 313, ob365 P) :: (nat_lit 315, ob367 P) :: (nat_lit 316, ob368 P) :: (nat_lit 317, ob369 P) :: (nat_lit 319, ob371 P) :: (nat_lit 320, ob372 P) :: (nat_lit 322, ob374 P) :: (nat_lit 323, ob375 P) :: (nat_lit 324, ob376 P) :: (nat_lit 327, ob379 P) :: (nat_lit 328, ob380 P) :: []
noncomputable def hookK : Hook := kHook heapK [nat_lit 2, nat_lit 3, nat_lit 15, nat_lit 17, nat_lit 18, nat_lit 20, nat_lit 21, nat_lit 29, nat_lit 31, nat_lit 32, nat_lit 34, nat_lit 35, nat_lit 36, nat_lit 38, nat_lit 39, nat_lit 41, nat_lit 42, nat_lit 43, nat_lit 44, nat_lit 45, nat_lit 46, nat_lit 47, nat_lit 57, nat_lit 58, nat_lit 61, nat_lit 62, nat_lit 63, nat_lit 65, nat_lit 66, nat_lit 68, nat_lit 69, nat_lit 70, nat_lit 72, nat_lit 73, nat_lit 75, nat_lit 76, nat_lit 77, nat_lit 79, nat_lit 80, nat_lit 82, nat_lit 83, nat_lit 84, nat_lit 86, nat_lit 87, nat_lit 89, nat_lit 90, nat_lit 91, nat_lit 94, nat_lit 95, nat_lit 96, nat_lit 97, nat_lit 98, nat_lit 99, nat_lit 100, nat_lit 103, nat_lit 105, nat_lit 106, nat_lit 108, nat_lit 109, nat_lit 110, nat_lit 112, nat_lit 113, nat_lit 115, nat_lit 116, nat_lit 117, nat_lit 119, nat_lit 120, nat_lit 122, nat_lit 123, nat_lit 124, nat_lit 127, nat_lit 128, nat_lit 129, nat_lit 131, nat_lit 132, nat_lit 134, nat_lit 135, nat_lit 136, nat_lit 139, nat_lit 140, nat_lit 141, nat_lit 148, nat_lit 149, nat_lit 151, nat_lit 152, nat_lit 154, nat_lit 155, nat_lit 156, nat_lit 158, nat_lit 159, nat_lit 161, nat_lit 162, nat_lit 163, nat_lit 164, nat_lit 165, nat_lit 166, nat_lit 169, nat_lit 176, nat_lit 177, nat_lit 178, nat_lit 181, nat_lit 183, nat_lit 184, nat_lit 186, nat_lit 187, nat_lit 188, nat_lit 190, nat_lit 191, nat_lit 193, nat_lit 194, nat_lit 195, nat_lit 197, nat_lit 198, nat_lit 200, nat_lit 201, nat_lit 202, nat_lit 204, nat_lit 205, nat_lit 207, nat_lit 208, nat_lit 216, nat_lit 218, nat_lit 219, nat_lit 221, nat_lit 222, nat_lit 223, nat_lit 225, nat_lit 226, nat_lit 228, nat_lit 229, nat_lit 230, nat_lit 232, nat_lit 233, nat_lit 235, nat_lit 236, nat_lit 237, nat_lit 238, nat_lit 239, nat_lit 240, nat_lit 241, nat_lit 251, nat_lit 253, nat_lit 254, nat_lit 256, nat_lit 257, nat_lit 258, nat_lit 260, nat_lit 261, nat_lit 263, nat_lit 264, nat_lit 265, nat_lit 268, nat_lit 269, nat_lit 270, nat_lit 273, nat_lit 274, nat_lit 275, nat_lit 276, nat_lit 277, nat_lit 278, nat_lit 279, nat_lit 282, nat_lit 284, nat_lit 285, nat_lit 287, nat_lit 288, nat_lit 289, nat_lit 291, nat_lit 292, nat_lit 294, nat_lit 295, nat_lit 296, nat_lit 298, nat_lit 299, nat_lit 301, nat_lit 302, nat_lit 303, nat_lit 305, nat_lit 306, nat_lit 308, nat_lit 309, nat_lit 310, nat_lit 312, nat_lit 313, nat_lit 315, nat_lit 316, nat_lit 317, nat_lit 319, nat_lit 320, nat_lit 322, nat_lit 323, nat_lit 324, nat_lit 327, nat_lit 328] (fun _ => by kernel_rfl)
noncomputable def viewK : Program := { PG with main := { PG.main with body := [at_ M 0, at_ M 2, at_ M 4, at_ M 5, at_ M 6, at_ M 7, at_ M 8, at_ M 9, at_ M 10, at_ M 12, at_ M 13, at_ M 15, at_ M 16, at_ M 17, at_ M 18, at_ M 19, at_ M 20, at_ M 21, at_ M 22, at_ M 23, at_ M 24, at_ M 25, at_ M 26, at_ M 27, at_ M 29, at_ M 30, at_ M 31] } }
noncomputable def envK : Env := ⟨PG.main.scope, mainNs, mainNs, [], Str.empty, none, .ref 13, some 14, 0⟩
noncomputable def cK : Code := .body (behindTheImports PG) envK
abbrev pos0 : Pos := ⟨0, 0, 0, 0⟩
noncomputable abbrev frK : List Frame := [topFrame pos0]
abbrev annK : Option Value := some (.ref 6)
abbrev drawn0 : Drawn := ⟨0, 0, 0, 0⟩
abbrev stK (T : BT) (n k : Nat) (os : OsState) : SharedT := ⟨T, n, lifeK, #[], drawn0, k, os⟩
theorem pre_ (w : World) (os : OsState) : topGo treeTable PG w 11 annK 12 ⟨boot_heap w.params, #[], boot_drawn, boot_toks, os⟩ (topStub PG) = some (⟨hp46 w.params, #[], drawn0, 187, os⟩, ⟨denote treeTable cK, cK, pos0, frK⟩) := by kernel_rfl
theorem blk_ (w : World) (os : OsState) : segRun treeTable PG w 11 annK 1 1 ⟨hp46 w.params, #[], drawn0, 187, os⟩ (blockOf (behindTheImports PG) envK cK pos0 frK) = some (.next, (stK (tr47 w.params) 15 187 os).abs, cK, pos0) := by kernel_rfl
noncomputable abbrev sts0 : List Stmt := [at_ M 0, at_ M 1, at_ M 2, at_ M 3, at_ M 4]
theorem grp0 (w : World) (os : OsState) : segRunT treeTable PG w 11 annK 1 683 (stK (tr47 w.params) 15 187 os) (piecesOf sts0 envK cK ⟨0, 0, 0, 0⟩ frK) = some (.next, stK (tr140 w.params) 103 306 os, cK, ⟨13, 0, 37, 86⟩) := by kernel_rfl
noncomputable abbrev sts1 : List Stmt := [at_ M 5, at_ M 6, at_ M 7, at_ M 8, at_ M 9, at_ M 10, at_ M 11, at_ M 12, at_ M 13, at_ M 14, at_ M 15, at_ M 16, at_ M 17, at_ M 18, at_ M 19, at_ M 20, at_ M 21]
theorem grp1 (w : World) (os : OsState) : segRunT treeTable PG w 11 annK 1 822 (stK (tr140 w.params) 103 306 os) (piecesOf sts1 envK cK ⟨13, 0, 37, 86⟩ frK) = some (.next, stK (tr254 w.params) 209 451 os, cK, ⟨98, 0, 104, 31⟩) := by kernel_rfl
noncomputable abbrev sts2 : List Stmt := [at_ M 22, at_ M 23, at_ M 24, at_ M 25, at_ M 26, at_ M 27, at_ M 28, at_ M 29, at_ M 30, at_ M 31]
theorem grp2 (w : World) (os : OsState) : segRunT treeTable PG w 11 annK 1 836 (stK (tr254 w.params) 209 451 os) (piecesOf sts2 envK cK ⟨98, 0, 104, 31⟩ frK) = some (.next, stK (tr380 w.params) 329 625 os, cK, ⟨179, 0, 217, 15⟩) := by kernel_rfl
theorem fin_ (w : World) (os : OsState) : topRun treeTable PG w 11 annK 2 (stK (tr380 w.params) 329 625 os).abs ⟨doneF .next, cK, ⟨179, 0, 217, 15⟩, frK⟩ = some ⟨hp381 w.params, #[], drawn0, 625, os⟩ := by kernel_rfl
theorem body_eq : behindTheImports PG = sts0 ++ (sts1 ++ (sts2 ++ ([]))) := by kernel_rfl
theorem rest_ (w : World) (os : OsState) : topRun treeTable PG w 11 annK (683 + (822 + (836 + (2)))) (stK (tr47 w.params) 15 187 os).abs (restOf (sts0 ++ (sts1 ++ (sts2 ++ ([])))) envK cK pos0 frK) = some ⟨hp381 w.params, #[], drawn0, 625, os⟩ :=
  piece_app (segRun_of (grp0 w os)) (piece_app (segRun_of (grp1 w os)) (piece_app (segRun_of (grp2 w os)) (piece_nil (fin_ w os))))
theorem run_ (w : World) (os : OsState) : topRun treeTable PG w 11 annK (12 + (1 + (683 + (822 + (836 + (2)))))) ⟨boot_heap w.params, #[], boot_drawn, boot_toks, os⟩ (topStub PG) = some ⟨hp381 w.params, #[], drawn0, 625, os⟩ :=
  go_top (pre_ w os) (piece_block (blk_ w os) (by rw [body_eq]; exact rest_ w os))
theorem open_ : ∀ w : World, (fencedOpening treeTable PG w 4802).map (fun s => (s.heap, s.gens, s.drawn, s.toks)) = some (boot_heap w.params, #[], boot_drawn, boot_toks) :=
  boot_open (by kernel_rfl) (by kernel_rfl) (fun s => by kernel_rfl)
theorem size_ : ∀ w : World, ((boot_heap w.params).isNs mainGlobals && (#[] : Array GenState).size == 0, (boot_heap w.params).objs.size, (boot_heap w.params).nsMap mainGlobals "__annotations__") = (true, 11, annK) := by intro w; kernel_rfl
theorem leftK : LeftO PG viewK [Str.ofString "PostError"] (fun s => xlAt viewK [] s && recOk (RowW.records PySem.Challenge.rw_nz0299_01.row.toRowW) s) (Hook.obs hookK) (Hook.val hookK) 4802 :=
  LeftO.of_pieces open_ size_ run_ (by kernel_rfl) (by intro w; kernel_rfl)
theorem saidK : OpenLaw.wellSaid PySem.Challenge.rw_nz0299_01 = true := by kernel_rfl
theorem filled : PySem.Challenge.rw_nz0299_01 = PySem.Challenge.rw_nz0299_01 ∧ heapK = heapK := by k_fill; exact ⟨rfl, rfl⟩
noncomputable abbrev VG : Program := viewK
noncomputable abbrev LG : List Str := looseW viewK [Str.ofString "PostError"]

/-- what stands at the top, in a heap -/
structure Bs (w : World) (mg mb : Str → Option Value) (g : Heap) : Prop where
  k : (heapK w.params).In g
  t : TopRead VG LG mg mb g
theorem Bs.up {w : World} {mg mb : Str → Option Value} {g h : Heap} (B : Bs w mg mb g) (k : g.StaysIn h) : Bs w mg mb h := ⟨B.k.keeps k, B.t.keeps k⟩

/-- the caller's heap without what the call may change -/
structure Gd (s : Heap) (news : List (Addr × Obj)) (g g₁ : Heap) : Prop where
  sub : g.StaysIn g₁
  all : ∀ a o, s.get? a = some o → (∀ p ∈ news, p.1 ≠ a) → g₁.get? a = some o
  old : ∀ a o, g₁.get? a = some o → s.get? a = some o
  off : ∀ p ∈ news, g₁.get? p.1 = none

section
variable {w : World} {mg mb : Str → Option Value} {A : Around} {s : Shared} {g : Heap} {news : List (Addr × Obj)} {R : Result → Shared → Prop}
  {name qual : Str} {pO pA : List Arg} {pV : Option Arg} {pK : List Arg} {pD : List (Option Expr)} {pW : Option Arg} {pF : List Expr} {b₀ : Stmt} {bs : List Stmt} {sk : ScopeKind} {sn : List (Str × NameKind)} {sg sc : Bool} {sm : List (Str × Const)} {dV kV doc pm cdv ct oc : Value} {an od : Option Addr} {osl : Array (Option Value)} {f : Addr} {args : Args} {binds : List (Str × Value)}

theorem enter (B : Bs w mg mb g) (S : g.StaysIn s.heap) (hD : ∀ p ∈ news, s.heap.get? p.1 = some p.2 ∧ g.get? p.1 = none)
    (ho : (heapK w.params).lookup f = some ⟨oc, od, .func (fnOf name qual ⟨pO, pA, pV, pK, pD, pW, pF⟩ (b₀ :: bs) (Scope.mk sk sn sg sc sm) dV kV doc pm an cdv ct), osl⟩)
    (hcd : codeIn (heapK w.params) cdv qual = true) (hroom : A.depth < recursionLimit)
    (hbind : BindsTo s (fnOf name qual ⟨pO, pA, pV, pK, pD, pW, pF⟩ (b₀ :: bs) (Scope.mk sk sn sg sc sm) dV kV doc pm an cdv ct) args binds) (hloc : ∀ y ∈ binds, (Scope.mk sk sn sg sc sm).names.lookup y.1 = some .local)
    (h : ∀ g₁ L h₁, Gd s.heap news g g₁ → Fr g₁ L h₁ (fun y => binds.reverse.lookup y) → News g₁ L h₁ news → (∀ p ∈ news, p.1 < L) → (heapK w.params).In g₁ → TopRead VG LG mg mb g₁ →
      wpAny (model PG w) (A.deeper (envOf qual (Scope.mk sk sn sg sc sm) L f cdv)) (execs (b₀ :: bs) (envOf qual (Scope.mk sk sn sg sc sm) L f cdv))
        (fun fl s' => R (.ok (.ret (match fl with | .ret v => v | _ => .none))) s') (fun _ _ => False) { s with heap := h₁, toks := s.toks + binds.length })
    (hcell : ∀ x ∈ (Scope.mk sk sn sg sc sm).names, x.2 ≠ .cell) (hco : (Scope.mk sk sn sg sc sm).isCoroutine = false) (hgen : (Scope.mk sk sn sg sc sm).isGenerator = false) (hk : (Scope.mk sk sn sg sc sm).kind = .function) :
    codeAny (model PG w) A (.call (.ref f) args) R s := by
  have B' := B.up S
  refine codeAny_call_def (fd := fnOf name qual ⟨pO, pA, pV, pK, pD, pW, pF⟩ (b₀ :: bs) (Scope.mk sk sn sg sc sm) dV kV doc pm an cdv ct) (body := b₀ :: bs) (binds := binds) hroom (B'.k _ _ ho) rfl B'.t.nolimit (codeRec_of B'.k hcd) rfl hbind hcell hloc (fun h₁ hns hk₁ => ?_) hco hgen hk
  have nm : ∀ b o, g.get? b = some o → b ∉ news.map (·.1) := fun b o e q => by
    obtain ⟨p, hp, rfl⟩ := List.mem_map.mp q
    rw [(hD p hp).2] at e; cases e
  have st : g.StaysIn (hideAll s.heap (news.map (·.1))) := fun b o e => hideAll_get _ (S b o e) (nm b o e)
  have B₁ := B.up st
  refine wpAny_mono (h _ s.heap.objs.size h₁ ⟨st, fun a o e n => hideAll_get _ e fun q => ?_, fun a o e => of_hideAll _ e, fun p hp => hideAll_none _ (List.mem_map_of_mem hp)⟩
    ⟨hns, fun b o e => hk₁ b o (of_hideAll _ e), Nat.le_of_eq (hideAll_size _ _)⟩
    (fun p hp => ⟨hk₁ _ _ (hD p hp).1, Nat.ne_of_lt (Heap.lt_size (hD p hp).1), hideAll_none _ (List.mem_map_of_mem hp)⟩) (fun p hp => Heap.lt_size (hD p hp).1) B₁.k B₁.t) (fun _ _ q => q) fun _ _ q => q.elim
  obtain ⟨p, hp, e'⟩ := List.mem_map.mp q
  exact n p hp e'
end
abbrev AR (dep : Nat) (fr : Option (List Env)) (gd : Option (List Code)) (un : Nat) : Around := { handled := none, depth := dep, frames := fr, guards := gd, units := un }
theorem Gd.stays {s g g₁ h' : Heap} {L : Addr} {m : Str → Option Value} (G : Gd s [] g g₁) (F : Fr g₁ L h' m) : s.StaysIn h' := fun a o e => F.keep a o (G.all a o e fun _ hp => nomatch hp)
theorem Gd.fresh {s g g₁ : Heap} {news : List (Addr × Obj)} {D : Addr} (G : Gd s news g g₁) (n : ∀ p ∈ news, p.1 ≠ D) (e : g₁.get? D = none) : s.get? D = none := by
  cases q : s.get? D with
  | none => rfl
  | some o => have := G.all D o q n; rw [e] at this; cases this
theorem Gd.new {s g g₁ h' : Heap} {L D : Addr} {o : Obj} {news : List (Addr × Obj)} (G : Gd s [] g g₁) (N : News g₁ L h' news) (hm : (D, o) ∈ news) : s.get? D = none := G.fresh (fun _ h => nomatch h) (N.fresh hm)
theorem newsAdd {h₀ h h' : Heap} {L D : Addr} {m : Str → Option Value} {o : Obj} {news : List (Addr × Obj)} (F : Fr h₀ L h m) (N : News h₀ L h news) (k : h.StaysIn h') (hf : h.get? D = none) (hg : h'.get? D = some o) : News h₀ L h' ((D, o) :: news) := by
  intro p hp
  rcases List.mem_cons.mp hp with rfl | hp
  · refine ⟨hg, fun (e : D = L) => ?_, ?_⟩
    · obtain ⟨oL, _, _, hL, _⟩ := F.ns
      rw [e, hL] at hf; cases hf
    · cases q : h₀.get? D with
      | none => rfl
      | some o' => rw [F.keep _ _ q] at hf; cases hf
  · exact ⟨k _ _ (N p hp).1, (N p hp).2⟩
/-- a frame's map where some names were stored -/
def over (u : Str → Option Value) (m₀ : Str → Option Value) : List Str → Str → Option Value
  | [], y => m₀ y
  | a :: r, y => if y = a then u a else over u m₀ r y
theorem over_eq {m' m₀ : Str → Option Value} : ∀ {names : List Str}, (∀ y, y ∉ names → m' y = m₀ y) → m' = over m' m₀ names
  | [], h => funext fun y => h y (fun q => nomatch q)
  | a :: r, h => funext fun y => by
    show m' y = if y = a then m' a else over m' m₀ r y
    by_cases e : y = a
    · rw [if_pos e, e]
    · rw [if_neg e]
      have ih := over_eq (m' := fun z => if z = a then m₀ a else m' z) (m₀ := m₀) (names := r) (fun z hz => by
        show (if z = a then m₀ a else m' z) = m₀ z
        by_cases q : z = a
        · rw [if_pos q, q]
        · rw [if_neg q]; exact h z (fun w => by rcases List.mem_cons.mp w with w | w; exact q w; exact hz w))
      have key : ∀ (names : List Str), over (fun z => if z = a then m₀ a else m' z) m₀ names y = over m' m₀ names y := by
        intro names
        induction names with
        | nil => rfl
        | cons b t ih =>
          show (if y = b then (if b = a then m₀ a else m' b) else _) = if y = b then m' b else _
          by_cases q : y = b
          · rw [if_pos q, if_pos q, if_neg (q ▸ e)]
          · rw [if_neg q, if_neg q]; exact ih
      have := congrFun ih y
      rw [key] at this
      rw [← this, if_neg e]
theorem frNe {h₀ h : Heap} {L a : Addr} {m : Str → Option Value} {o : Obj} (F : Fr h₀ L h m) (e : h₀.get? a = some o) : a ≠ L := Nat.ne_of_lt (Nat.lt_of_lt_of_le (Heap.lt_size e) F.above)
def Keep (D : List Addr) (h h' : Heap) : Prop := ∀ a o, a ∉ D → h.get? a = some o → h'.get? a = some o
theorem Gd.keep {s g g₁ h' : Heap} {news : List (Addr × Obj)} {L : Addr} {m : Str → Option Value} (G : Gd s news g g₁) (F : Fr g₁ L h' m) : Keep (news.map (·.1)) s h' :=
  fun a o n e => F.keep a o (G.all a o e fun p hp q => n (List.mem_map.mpr ⟨p, hp, q⟩))
def AllNe (d : Nat) : List (Addr × Obj) → Prop
  | [] => True
  | p :: r => @Ne Nat p.1 d ∧ AllNe d r
theorem allNe_of {d : Addr} : ∀ {l : List (Addr × Obj)}, (∀ p ∈ l, p.1 ≠ d) → AllNe d l
  | [], _ => trivial
  | p :: _, h => ⟨h p (.head _), allNe_of fun q hq => h q (.tail _ hq)⟩
/-- what is new lies apart from the ledger -/
theorem newsNe {h₀ h : Heap} {L D : Addr} {news : List (Addr × Obj)} (N : News h₀ L h news) (hf : h.get? D = none) : AllNe D news := allNe_of fun p hp q => by
  have := (N p hp).1
  rw [q, hf] at this; cases this
/-- a call that changed one object of the ledger -/
theorem newsUpd {h₀ h h' : Heap} {L d : Addr} {m : Str → Option Value} {o o' : Obj} {news news' : List (Addr × Obj)} (F : Fr h₀ L h m) (N : News h₀ L h news) (K : Keep [d] h h') (U : Upd d o o' news news') (e : h'.get? d = some o') : Fr h₀ L h' m ∧ News h₀ L h' news' := by
  obtain ⟨pre, post, rfl, rfl, a, b⟩ := U.split
  have D := N (d, o) (by simp)
  have kk : ∀ b x, b ≠ d → h.get? b = some x → h'.get? b = some x := fun b x n q => K b x (by simpa using n) q
  refine ⟨⟨F.ns.at' fun x q => kk _ _ (Ne.symm D.2.1) q, fun b x q => kk b x (fun z => by rw [z] at q; rw [D.2.2] at q; cases q) (F.keep b x q), F.above⟩, fun p hp => ?_⟩
  rcases List.mem_append.mp hp with q | q
  · have P := N p (List.mem_append_left _ q); exact ⟨kk _ _ (a p q) P.1, P.2⟩
  · rcases List.mem_cons.mp q with rfl | q
    · exact ⟨e, D.2⟩
    · have P := N p (List.mem_append_right _ (.tail _ q)); exact ⟨kk _ _ (b p q) P.1, P.2⟩
theorem newsAdd2 {h₀ h h' : Heap} {L D D' : Addr} {m : Str → Option Value} {o o' : Obj} {news : List (Addr × Obj)} (F : Fr h₀ L h m) (N : News h₀ L h news) (k : h.StaysIn h') (hf : h.get? D = none) (hg : h'.get? D = some o) (hf' : h.get? D' = none) (hg' : h'.get? D' = some o') :
    News h₀ L h' ((D, o) :: (D', o') :: news) := fun p hp => by
  rcases List.mem_cons.mp hp with rfl | hp
  · exact newsAdd F N k hf hg _ (.head _)
  · exact newsAdd F N k hf' hg' _ hp
theorem list_set {prog : Program} {w : World} {A : Around} {E : Value → Shared → Prop} {s : Shared} {h₀ : Heap} {L D : Addr} {m : Str → Option Value} {news news' : List (Addr × Obj)} {vs : List Value} {n : Nat} {k : Int} {t : Tok} {v : Value} {Q : Unit → Shared → Prop}
    (F : Fr h₀ L s.heap m) (N : News h₀ L s.heap news) (U : Upd D (PySem.W.listOf vs.toArray n) (PySem.W.listOf (vs.set k.toNat v).toArray n) news news') (h0 : 0 ≤ k) (h1 : k < vs.length) (hfit : k < 2 ^ 63)
    (h : ∀ h', Fr h₀ L h' m → News h₀ L h' news' → Q () { s with heap := h' }) : wpAny (model prog w) A (setItem (.ref D) (.int k t) v) Q E s := by
  obtain ⟨pre, post, rfl, rfl, a, b⟩ := U.split
  have z := N (D, PySem.W.listOf vs.toArray n) (List.mem_append.mpr (.inr (.head _)))
  have hs : vs.toArray.size = vs.length := List.size_toArray ..
  refine ki_setAt z.1 h0 hfit (by omega) (h _ (F.change (Heap.SameBut.update ..) z.2.1 z.2.2) (ki_turn _ N a b ?_ ?_))
  · show vs.toArray.setIfInBounds k.toNat v = (vs.set k.toNat v).toArray
    apply Array.toList_inj.mp
    simp
  · simp
theorem Gd.staysN {s g g₁ h' : Heap} {news news' : List (Addr × Obj)} {L : Addr} {m : Str → Option Value} (G : Gd s news g g₁) (hD : ∀ p ∈ news, s.get? p.1 = some p.2) (F : Fr g₁ L h' m) (N : News g₁ L h' news') (sub : ∀ p ∈ news, p ∈ news') : s.StaysIn h' := fun a o e => by
  by_cases q : ∃ p ∈ news, p.1 = a
  · obtain ⟨p, hp, rfl⟩ := q
    have := hD p hp
    rw [e] at this; cases this
    exact N.get (sub p hp)
  · exact F.keep a o (G.all a o e fun p hp z => q ⟨p, hp, z⟩)
theorem range_set {n j : Nat} {l : Nat → Addr} {a : Addr} : ((List.range n).map fun i => Value.ref (l i)).set j (.ref a) = (List.range n).map fun i => Value.ref (if i = j then a else l i) := by
  apply List.ext_getElem
  · simp
  · intro i h1 h2
    simp only [List.getElem_set, List.getElem_map, List.getElem_range]
    by_cases h : j = i
    · rw [if_pos h, if_pos h.symm]
    · rw [if_neg h, if_neg (Ne.symm h)]
theorem updAll {d : Addr} {o o' : Obj} : ∀ {l l' : List (Addr × Obj)}, Upd d o o' l l' → ∀ p ∈ l', p = (d, o') ∨ (p ∈ l ∧ p.1 ≠ d)
  | _, _, .head h, p, hp => by
    rcases List.mem_cons.mp hp with rfl | hp
    · exact .inl rfl
    · exact .inr ⟨.tail _ hp, h p hp⟩
  | _, _, .tail h r, p, hp => by
    rcases List.mem_cons.mp hp with rfl | hp
    · exact .inr ⟨.head _, h⟩
    · exact (updAll r p hp).imp id fun z => ⟨.tail _ z.1, z.2⟩
theorem updHas {d : Addr} {o o' : Obj} : ∀ {l l' : List (Addr × Obj)}, Upd d o o' l l' → ∀ p ∈ l, p.1 ≠ d → p ∈ l'
  | _, _, .head h, p, hp, n => by
    rcases List.mem_cons.mp hp with rfl | hp
    · exact absurd rfl n
    · exact .tail _ hp
  | _, _, .tail h r, p, hp, n => by
    rcases List.mem_cons.mp hp with rfl | hp
    · exact .head _
    · exact .tail _ (updHas r p hp n)
theorem updIn {d : Addr} {o o' : Obj} : ∀ {l l' : List (Addr × Obj)}, Upd d o o' l l' → (d, o) ∈ l
  | _, _, .head _ => .head _
  | _, _, .tail _ r => .tail _ (updIn r)
/-- a call that changed two objects of the ledger -/
theorem newsUpd2 {h₀ h h' : Heap} {L d e : Addr} {m : Str → Option Value} {o o' q q' : Obj} {news mid news' : List (Addr × Obj)} (F : Fr h₀ L h m) (N : News h₀ L h news) (K : Keep [d, e] h h') (U : Upd d o o' news mid) (V : Upd e q q' mid news') (ed : h'.get? d = some o') (ee : h'.get? e = some q') (ne : d ≠ e) :
    Fr h₀ L h' m ∧ News h₀ L h' news' := by
  have D := N (d, o) (updIn U)
  have E' : ∃ x, (e, x) ∈ news := by
    rcases updAll U _ (updIn V) with z | z
    · exact absurd (congrArg Prod.fst z).symm ne
    · exact ⟨_, z.1⟩
  obtain ⟨x, hx⟩ := E'
  have E'' := N _ hx
  have kk : ∀ b y, b ≠ d → b ≠ e → h.get? b = some y → h'.get? b = some y := fun b y n1 n2 z => K b y (by simp [n1, n2]) z
  refine ⟨⟨F.ns.at' fun y z => kk _ _ (Ne.symm D.2.1) (Ne.symm E''.2.1) z, fun b y z => kk b y (fun w => by rw [w, D.2.2] at z; cases z) (fun w => by rw [w, E''.2.2] at z; cases z) (F.keep b y z), F.above⟩, fun p hp => ?_⟩
  rcases updAll V p hp with rfl | ⟨hp, n2⟩
  · exact ⟨ee, E''.2⟩
  · rcases updAll U p hp with rfl | ⟨hp, n1⟩
    · exact ⟨ed, D.2⟩
    · have P := N p hp
      exact ⟨kk _ _ n1 n2 P.1, P.2⟩
theorem bool_eq {Q : Value → Shared → Prop} {x y : Bool} {s : Shared} (e : x = y) (h : Q (.bool y) s) : Q (.bool x) s := e ▸ h
theorem newsMany {h₀ h h' : Heap} {L : Addr} {m : Str → Option Value} {news : List (Addr × Obj)} (F : Fr h₀ L h m) (N : News h₀ L h news) (k : h.StaysIn h') (tail : List (Addr × Obj)) (ht : ∀ p ∈ tail, h.get? p.1 = none ∧ h'.get? p.1 = some p.2) : News h₀ L h' (tail ++ news) := fun p hp => by
  rcases List.mem_append.mp hp with hp | hp
  · exact newsAdd F N k (ht p hp).1 (ht p hp).2 _ (.head _)
  · exact (News.grown N k) p hp
theorem inst_hl {h₀ h : Heap} {L x C dx : Addr} {m : Str → Option Value} {news : List (Addr × Obj)} {od : Obj} {sl : Array (Option Value)} (F : Fr h₀ L h m) (N : News h₀ L h news) (e : h₀.get? x = some (⟨.ref C, some dx, .plain, sl⟩ : Obj)) (hm : (dx, od) ∈ news) :
    InstAt h x ⟨.ref C, some dx, .plain, sl⟩ C (some od) := ⟨F.keep _ _ e, rfl, rfl, (N _ hm).1⟩
theorem int_eq {Q : Value → Shared → Prop} {x y : Int} {t : Tok} {s : Shared} (e : x = y) (h : Q (.int y t) s) : Q (.int x t) s := e ▸ h
theorem Bs.at {w : World} {mg mb : Str → Option Value} {h₀ h : Heap} {L : Addr} {m : Str → Option Value} (X : (heapK w.params).In h₀) (T : TopRead VG LG mg mb h₀) (F : Fr h₀ L h m) : Bs w mg mb h := ⟨X.keeps F.keep, T.keeps F.keep⟩
abbrev LO (l : List Value) (n : Nat) : Obj := PySem.W.listOf l.toArray n
theorem and2 {a b P : Prop} (h : a ∧ b) (k : a → b → P) : P := k h.1 h.2
theorem ex2k5 {α0 : Type} {α1 : Type} {p0 p1 p2 p3 p4 : α0 → α1 → Prop} {P : Prop} (h : ∃ a b, p0 a b ∧ p1 a b ∧ p2 a b ∧ p3 a b ∧ p4 a b) (k : ∀ a b, p0 a b → p1 a b → p2 a b → p3 a b → p4 a b → P) : P :=
  let ⟨a, b, z⟩ := h; k a b z.1 z.2.1 z.2.2.1 z.2.2.2.1 z.2.2.2.2
theorem ex2k6 {α0 : Type} {α1 : Type} {p0 p1 p2 p3 p4 p5 : α0 → α1 → Prop} {P : Prop} (h : ∃ a b, p0 a b ∧ p1 a b ∧ p2 a b ∧ p3 a b ∧ p4 a b ∧ p5 a b) (k : ∀ a b, p0 a b → p1 a b → p2 a b → p3 a b → p4 a b → p5 a b → P) : P :=
  let ⟨a, b, z⟩ := h; k a b z.1 z.2.1 z.2.2.1 z.2.2.2.1 z.2.2.2.2.1 z.2.2.2.2.2
theorem ex2k7 {α0 : Type} {α1 : Type} {p0 p1 p2 p3 p4 p5 p6 : α0 → α1 → Prop} {P : Prop} (h : ∃ a b, p0 a b ∧ p1 a b ∧ p2 a b ∧ p3 a b ∧ p4 a b ∧ p5 a b ∧ p6 a b) (k : ∀ a b, p0 a b → p1 a b → p2 a b → p3 a b → p4 a b → p5 a b → p6 a b → P) : P :=
  let ⟨a, b, z⟩ := h; k a b z.1 z.2.1 z.2.2.1 z.2.2.2.1 z.2.2.2.2.1 z.2.2.2.2.2.1 z.2.2.2.2.2.2
theorem ex1k3 {α : Type} {p0 p1 p2 : α → Prop} {P : Prop} (h : ∃ a, p0 a ∧ p1 a ∧ p2 a) (k : ∀ a, p0 a → p1 a → p2 a → P) : P :=
  let ⟨a, z⟩ := h; k a z.1 z.2.1 z.2.2
theorem and7 {p0 p1 p2 p3 p4 p5 p6 P : Prop} (h : p0 ∧ p1 ∧ p2 ∧ p3 ∧ p4 ∧ p5 ∧ p6) (k : p0 → p1 → p2 → p3 → p4 → p5 → p6 → P) : P := k h.1 h.2.1 h.2.2.1 h.2.2.2.1 h.2.2.2.2.1 h.2.2.2.2.2.1 h.2.2.2.2.2.2
theorem fa_nil {α : Type} {P : α → Prop} : ∀ x ∈ ([] : List α), P x := fun _ h => nomatch h
theorem fa_cons {α : Type} {P : α → Prop} {a : α} {l : List α} (h : P a) (t : ∀ x ∈ l, P x) : ∀ x ∈ a :: l, P x := List.forall_mem_cons.mpr ⟨h, t⟩
local macro_rules | `(tactic| walk_at "my each") => `(tactic| repeat' (first | exact fa_nil | refine fa_cons ?_ ?_))
local macro_rules | `(tactic| k_inst) => `(tactic| (refine' inst_hl ?F ?N ?e ?m; (case F => k_asm); (case N => k_asm); (case e => with_reducible assumption); (case m => k_mem)))
local macro_rules | `(tactic| walk_at "my entry") => `(tactic| ((case ho => k_is); (case hcd => k_is); (try (case hA => exact Nat.lt_of_lt_of_le (by first | assumption | (dsimp only; omega)) (by decide))); (case hbind => exact BindsTo.of_eq rfl); (case hloc => exact locs rfl); (case hcell => decide); (case hco => exact rfl); (case hgen => exact rfl); (case hk => exact rfl)))
local macro_rules | `(tactic| walk_at "my room") => `(tactic| first | exact Nat.lt_of_lt_of_le (by with_reducible assumption) (by decide) | exact Nat.lt_of_lt_of_le (Nat.succ_lt_succ (by with_reducible assumption)) (by decide) | exact Nat.lt_of_lt_of_le (Nat.succ_lt_succ (Nat.succ_lt_succ (by with_reducible assumption))) (by decide) | omega | (dsimp only [AR, Around.deeper, Around.in1]; omega) | (simp only [depth_under_make, depth_under_kw, depth_in1, depth_deeper, depth_caller]; omega))
local macro_rules | `(tactic| walk_at "my and") => `(tactic| first | with_reducible assumption | exact And.left (by with_reducible assumption) | exact And.left (And.right (by with_reducible assumption)) | exact And.right (by with_reducible assumption) | exact And.left (And.right (And.right (by with_reducible assumption))) | exact And.right (And.right (by with_reducible assumption)) | exact And.left (And.right (And.right (And.right (by with_reducible assumption)))) | exact And.right (And.right (And.right (by with_reducible assumption))))
local macro_rules | `(tactic| k_all) => `(tactic| first | exact List.forall_mem_nil _ | (refine' fa_cons ?a ?b; (case a => k_ne); (case b => k_all)))
local macro_rules | `(tactic| k_ne) => `(tactic| (refine neN ?_; (try dsimp only); first | walk_at "my and" | (refine Ne.symm ?_; walk_at "my and") | (refine Nat.ne_of_lt ?_; walk_at "my and") | (refine Nat.ne_of_gt ?_; walk_at "my and") | omega))
local macro_rules | `(tactic| walk_at "my base") => `(tactic| exact Bs.at (by with_reducible assumption) (by with_reducible assumption) (by with_reducible assumption))
local macro_rules | `(tactic| walk_at "my after") => `(tactic| (intro h' tk' k'; (have F'' := Fr.keeps (by with_reducible assumption) k'); (try (have N'' := News.grown (by with_reducible assumption) k')); (try k_sweep); (try dsimp only)))

/-- a heap cut down to some addresses -/
def only (h : Heap) (p : Addr → Bool) : Heap := { h with objs := h.objs.mapIdx fun i o => if p i then o else { o with data := .freed } }
theorem only_get {h : Heap} {p : Addr → Bool} {a : Addr} : (only h p).get? a = if p a then h.get? a else none := by
  unfold only Heap.get?
  dsimp only
  rw [Array.getElem?_mapIdx]
  cases h.objs[a]? with
  | none => cases p a <;> rfl
  | some o =>
    cases p a with
    | true => rfl
    | false =>
      obtain ⟨c, d, dt, sl⟩ := o
      rfl
theorem only_sub {h : Heap} {p : Addr → Bool} : (only h p).StaysIn h := fun a o e => by
  rw [only_get] at e
  split at e
  · exact e
  · cases e
theorem only_of {h : Heap} {p : Addr → Bool} {a : Addr} {o : Obj} (e : h.get? a = some o) (hp : p a = true) : (only h p).get? a = some o := by rw [only_get, if_pos hp]; exact e

/-- what stands in g, and what is new since h -/
def grow (g h h' : Heap) : Heap := only h' fun a => (g.get? a).isSome || (h.get? a).isNone
theorem grow_sub {g h h' : Heap} : (grow g h h').StaysIn h' := only_sub
theorem grow_old {g h h' : Heap} (k : g.StaysIn h') : g.StaysIn (grow g h h') := fun a o e => only_of (k a o e) (by rw [e]; rfl)
theorem grow_new {g h h' : Heap} {a : Addr} {o : Obj} (e : h'.get? a = some o) (n : h.get? a = none) : (grow g h h').get? a = some o := only_of e (by rw [n]; simp)
theorem grow_is {g h h' : Heap} {a : Addr} {o : Obj} (k : g.StaysIn h') (e : (grow g h h').get? a = some o) : g.get? a = some o ∨ h.get? a = none := by
  unfold grow at e
  rw [only_get] at e
  split at e
  · rename_i q
    rcases Bool.or_eq_true_iff.mp q with q | q
    · left
      obtain ⟨o', e'⟩ := Option.isSome_iff_exists.mp q
      have := k a o' e'
      rw [this] at e
      rw [e', e]
    · right
      simpa using q
  · cases e

theorem filter_range_succ (p : Nat → Bool) (k : Nat) : (List.range (k + 1)).filter p = (List.range k).filter p ++ if p k then [k] else [] := by
  rw [List.range_succ, List.filter_append, List.filter_cons, List.filter_nil]

section
variable {prog : Program} {w : World} {A : Around} {R : Result → Shared → Prop} {s : Shared}

/-- the turns of a list comprehension over a walk whose source stands -/
theorem comp_turns {elt iter : Expr} {x : Str} {px : Pos} {ifs : List Expr} {scope : Scope} {pos : Pos} {cenv : Env} {I D : Addr} {fp : List Addr} {n : Nat} {P : Nat → Value → Prop} {St : Nat → Heap → Prop}
    {H : Heap} {m₀ : Str → Option Value} (p : Nat → Bool) (Ψ : Nat → Value → Heap → Prop) (W : Walks prog w A I fp [I] n P St) (hsz : n ≤ 1000)
    (mono : ∀ i y h h', h.StaysIn h' → Ψ i y h → Ψ i y h')
    (hx : cenv.scope.names.lookup x = some .local) (hk : (cenv.scope.kind == .class || (cenv.scope.kind == .module && cenv.locals != cenv.globals)) = false)
    (hDC : D ≠ cenv.locals) (hDf : D ∉ fp) (hCf : cenv.locals ∉ fp) (hIH : H.get? I = none) (hDH : H.get? D = none) (hCH : H.get? cenv.locals = none) (live : ∀ i h, St i h → ∃ o, h.get? I = some o)
    (hst : St 0 s.heap) (hacc : s.heap.PlainList D #[]) (hn : s.heap.Ns cenv.locals m₀) (hH : H.StaysIn s.heap)
    (htest : ∀ i v h tk m, i < n → P i v → H.StaysIn h → h.Ns cenv.locals m → m x = some v →
      wpAny (model prog w) A (forIn ifs true fun c r => if r = true then do let ok ← isTrue c cenv (eval c cenv); pure (ForInStep.yield ok) else pure (ForInStep.yield r))
        (fun ok s₃ => ok = p i ∧ ∃ h' tk', s₃ = { s with heap := h', toks := tk' } ∧ h.StaysIn h') (fun _ _ => False) { s with heap := h, toks := tk })
    (helt : ∀ i v h tk m, i < n → p i = true → P i v → H.StaysIn h → h.Ns cenv.locals m → m x = some v →
      wpAny (model prog w) A (eval elt cenv) (fun y s₃ => ∃ h' tk', s₃ = { s with heap := h', toks := tk' } ∧ h.StaysIn h' ∧ Ψ i y (grow H h h')) (fun _ _ => False) { s with heap := h, toks := tk })
    (hR : ∀ h' tk m' ys (Y : Nat → Value), h'.Ns cenv.locals m' → h'.PlainList D ys → ys.toList = ((List.range n).filter p).map Y → H.StaysIn h' → (∃ g, H.StaysIn g ∧ g.StaysIn h' ∧ g.get? D = none ∧ g.get? cenv.locals = none ∧ ∀ i, i < n → p i = true → Ψ i (Y i) g) →
      R (.ok .next) { s with heap := h', toks := tk }) :
    codeAny (model prog w) A (.compLoop (.ListComp elt [⟨.Name x px, iter, ifs, 0⟩] scope pos) 0 (.ref I) (.ref D) cenv) R s := by
  refine codeAny_compLoop_tests
    (fun k s' => ∃ h tk m j ys, ∃ (Y : Nat → Value) (g : Heap), s' = { s with heap := h, toks := tk } ∧ k = n + 1 - j ∧ j ≤ n ∧ St j h ∧ h.PlainList D ys ∧ h.Ns cenv.locals m ∧
      ys.toList = ((List.range j).filter p).map Y ∧ H.StaysIn g ∧ g.StaysIn h ∧ g.get? D = none ∧ g.get? cenv.locals = none ∧ g.get? I = none ∧ ∀ i, i < j → p i = true → Ψ i (Y i) g) ?_ (n + 1)
    ⟨s.heap, s.toks, m₀, 0, #[], fun _ => .none, H, rfl, rfl, Nat.zero_le _, hst, hacc, hn, rfl, fun _ _ e => e, hH, hDH, hCH, hIH, fun i hi => absurd hi (Nat.not_lt_zero _)⟩
  rintro k s' ⟨h, tk, m, j, ys, Y, g, rfl, rfl, hj, hst', hacc', hn', hys, hHg, hgh, gD, gC, gI, hΨ⟩
  have hys_sz : ys.size ≤ sizeLine := by
    have e1 : ys.toList.length = ys.size := by simp
    rw [hys, List.length_map] at e1
    have e2 := List.length_filter_le p (List.range j)
    rw [List.length_range] at e2
    rw [sizeLine_eq]; omega
  by_cases hlt : j < n
  · refine W.item j _ _ _ hlt hst' fun v h₁ tk₁ hPv hst₁ hk₁ => ?_
    have hCI : cenv.locals ∉ [I] := fun q => hCf (W.sub _ q)
    have hDI : D ∉ [I] := fun q => hDf (W.sub _ q)
    refine wpAny_assign_Name (wpAny_storeName_local hx (hn'.at' fun o e => hk₁ _ o hCI e) (fun h₂ hn₂ hs₂ => ?_) hk)
    have gne : ∀ b o, g.get? b = some o → b ≠ I ∧ b ≠ cenv.locals ∧ b ≠ D := fun b o e => ⟨fun q => (by rw [q, gI] at e; cases e), fun q => (by rw [q, gC] at e; cases e), fun q => (by rw [q, gD] at e; cases e)⟩
    have g₂ : g.StaysIn h₂ := fun b o e => by
      obtain ⟨n1, n2, n3⟩ := gne b o e
      exact hs₂.extBut b o n2 (hk₁ b o (by simpa using n1) (hgh b o e))
    have up₂ : ∀ b o, b ≠ cenv.locals → b ≠ I → h.get? b = some o → h₂.get? b = some o := fun b o n1 n2 e => hs₂.extBut b o n1 (hk₁ b o (by simpa using n2) e)
    have hst₂ : St (j + 1) h₂ := W.frame _ _ _ hst₁ fun b hb o e => hs₂.extBut b o (fun q => hCf (q ▸ hb)) e
    refine wpAny_mono (htest j v h₂ _ _ hlt hPv (fun b o e => g₂ b o (hHg b o e)) hn₂ (by simp)) (fun ok s₃ h₃' => ?_) fun _ _ q => q.elim
    obtain ⟨rfl, h₃, tk₃, rfl, hk₃⟩ := h₃'
    have hacc₃ : h₃.PlainList D ys := hacc'.at fun o e => hk₃ _ o (up₂ D o hDC (by simpa using hDI) e)
    have hn₃ := hn₂.keeps hk₃
    have hst₃ : St (j + 1) h₃ := W.frame _ _ _ hst₂ fun b _ o e => hk₃ b o e
    have hI₃ : ∃ o, h₃.get? I = some o := live _ _ hst₃
    cases hpj : p j with
    | false =>
      simp only [Bool.false_eq_true, if_false]
      refine ⟨n + 1 - (j + 1), by omega, h₃, tk₃, _, j + 1, ys, Y, g, rfl, rfl, hlt, hst₃, hacc₃, hn₃, ?_, hHg, fun b o e => hk₃ _ _ (g₂ b o e), gD, gC, gI, fun i hi hpi => ?_⟩
      · rw [filter_range_succ, hpj]; simpa using hys
      · rcases Nat.lt_succ_iff_lt_or_eq.mp hi with q | q
        · exact hΨ i q hpi
        · rw [q, hpj] at hpi; cases hpi
    | true =>
      simp only [if_true]
      refine wpAny_mono (helt j v h₃ tk₃ _ hlt hpj hPv (fun b o e => hk₃ _ _ (g₂ b o (hHg b o e))) hn₃ (by simp)) (fun y s₄ h₄' => ?_) fun _ _ q => q.elim
      obtain ⟨h₄, tk₄, rfl, hk₄, hy⟩ := h₄'
      refine wpAny_list_append_plain (hsz := hys_sz) (hacc₃.at fun o e => hk₄ _ o e) fun h₅ hl₅ hs₅ => ?_
      have g₅ : ∀ b o, b ≠ D → h₄.get? b = some o → h₅.get? b = some o := fun b o nb e => hs₅.extBut b o nb e
      let q : Addr → Bool := fun a => (g.get? a).isSome || (H.get? a).isSome || (h₃.get? a).isNone
      obtain ⟨eD, hD₃⟩ := id hacc₃
      obtain ⟨oC, _, _, hC₃, _⟩ := id hn₃
      obtain ⟨oI₃, hoI₃⟩ := id hI₃
      have offq : ∀ b o, g.get? b = none → H.get? b = none → h₃.get? b = some o → (only h₅ q).get? b = none := fun b o e1 e2 e3 => by
        rw [only_get, if_neg]
        simp [q, e1, e2, e3]
      refine ⟨n + 1 - (j + 1), by omega, h₅, tk₄, _, j + 1, ys.push y, (fun i => if i = j then y else Y i), only h₅ q, rfl, rfl, hlt, ?_, hl₅, (hn₃.keeps hk₄).sameBut hs₅ (Ne.symm hDC), ?_, ?_, only_sub,
        offq _ _ gD hDH hD₃, offq _ _ gC hCH hC₃, offq _ _ gI hIH hoI₃, fun i hi hpi => ?_⟩
      · exact W.frame _ _ _ hst₃ fun b hb o e => g₅ b o (fun z => hDf (z ▸ hb)) (hk₄ b o e)
      · rw [filter_range_succ, hpj, Array.toList_push, hys]
        simp only [if_true, List.map_append, List.map_cons, List.map_nil]
        refine congrArg (· ++ [y]) (List.map_congr_left fun i hi => ?_)
        have : i < j := List.mem_range.mp (List.mem_filter.mp hi).1
        rw [if_neg (by omega)]
      · exact fun b o e => only_of (g₅ b o (gne b o (hHg b o e)).2.2 (hk₄ _ _ (hk₃ _ _ (g₂ b o (hHg b o e))))) (by simp [q, e])
      · rcases Nat.lt_succ_iff_lt_or_eq.mp hi with z | z
        · dsimp only
          rw [if_neg (by omega)]
          refine mono _ _ _ _ (fun b o e => ?_) (hΨ i z hpi)
          exact only_of (g₅ b o (gne b o e).2.2 (hk₄ _ _ (hk₃ _ _ (g₂ b o e)))) (by simp [q, e])
        · dsimp only
          rw [if_pos z, z]
          refine mono _ _ _ _ (fun b o e => ?_) hy
          have hHh : H.StaysIn h₄ := fun b o e => hk₄ _ _ (hk₃ _ _ (g₂ b o (hHg b o e)))
          have e4 := grow_sub b o e
          rcases grow_is hHh e with e' | e'
          · exact only_of (g₅ b o (gne b o (hHg b o e')).2.2 e4) (by simp [q, e'])
          · exact only_of (g₅ b o (fun z => by rw [z, hD₃] at e'; cases e') e4) (by simp [q, e'])
  · have hin : j = n := by omega
    subst hin
    refine W.done _ _ _ hst' fun h₁ tk₁ hk₁ => ?_
    have hCI : cenv.locals ∉ [I] := fun q => hCf (W.sub _ q)
    have hDI : D ∉ [I] := fun q => hDf (W.sub _ q)
    have g₁ : g.StaysIn h₁ := fun b o e => hk₁ b o (by intro z; rw [List.mem_singleton] at z; rw [z, gI] at e; cases e) (hgh b o e)
    exact hR h₁ tk₁ m ys Y (hn'.at' fun o e => hk₁ _ o hCI e) (hacc'.at fun o e => hk₁ _ o hDI e) hys (fun b o e => g₁ b o (hHg b o e)) ⟨g, hHg, g₁, gD, gC, hΨ⟩
end

section
variable {prog : Program} {w : World} {A : Around} {E : Value → Shared → Prop} {s : Shared} {env : Env} {Q : Value → Shared → Prop}
  {elt iter : Expr} {x : Str} {px : Pos} {ifs : List Expr} {scope : Scope} {pos : Pos} {cl : List (Str × Addr)} {use : Option (Value → Sem Unit)}

def CpAt (prog : Program) (w : World) (A : Around) (env : Env) (elt iter : Expr) (x : Str) (px : Pos) (ifs : List Expr) (scope : Scope) (pos : Pos) (cl : List (Str × Addr)) (use : Option (Value → Sem Unit)) (Q : Value → Shared → Prop) (E : Value → Shared → Prop) (xv : Value) (s : Shared) : Prop :=
  wpAny (model prog w) A (pyIter xv) (fun it s₂ => wpAny (model prog w) A (newList []) (fun acc s₃ =>
      wpAny (model prog w) A (newFunctionEnv scope env.globals cl [] env.qual none .none (some env)) (fun cenv s₄ =>
        codeAny (model prog w) A (.compStart (.ListComp elt [⟨.Name x px, iter, ifs, 0⟩] scope pos) 0 it acc { cenv with scope := relabel scope env }) (compPost (model prog w) A E use Q acc cenv.locals) s₄) E s₃) E s₂) E s

theorem cp_eval (hclos : closureFor scope env = pure cl) (hkind : scope.kind = .function)
    (hnames : ∀ y ∈ scope.names, y.2 = .local → scope.names.lookup y.1 = some .local)
    (h : wpAny (model prog w) A (eval iter env) (fun xv s₁ => CpAt prog w A env elt iter x px ifs scope pos cl none Q E xv s₁) E s)
    (hs : ∀ x, foldedSetIterable iter env x = pure x) :
    wpAny (model prog w) A (eval (.ListComp elt [⟨.Name x px, iter, ifs, 0⟩] scope pos) env) Q E s := by
  rw [eval_ListComp]
  exact wpAny_comprehension_free (use := none) rfl hs hclos hkind hnames h

theorem cp_intro {l : Addr} {items : Array Value} (hl : s.heap.IsList l items ∨ s.heap.IsTuple l items) (hh : A.handled = none) (hsz : items.size ≤ 1000)
    (hcell : ∀ y ∈ scope.names, y.2 ≠ .cell) (hkind : scope.kind = .function) (hx : scope.names.lookup x = some .local)
    (p : Nat → Bool) (Ψ : Nat → Value → Heap → Prop) (mono : ∀ i y h h', h.StaysIn h' → Ψ i y h → Ψ i y h')
    (htest : ∀ C i v h tk m, items[i]? = some v → Fr s.heap C h m → m x = some v →
      wpAny (model prog w) A (forIn ifs true fun c r => if r = true then do let ok ← isTrue c (compEnvC scope cl C env) (eval c (compEnvC scope cl C env)); pure (ForInStep.yield ok) else pure (ForInStep.yield r))
        (fun ok s₃ => ok = p i ∧ ∃ h' tk', s₃ = { s with heap := h', toks := tk' } ∧ h.StaysIn h') (fun _ _ => False) { s with heap := h, toks := tk })
    (helt : ∀ C i v h tk m, p i = true → items[i]? = some v → Fr s.heap C h m → m x = some v →
      wpAny (model prog w) A (eval elt (compEnvC scope cl C env)) (fun y s₃ => ∃ h' tk', s₃ = { s with heap := h', toks := tk' } ∧ h.StaysIn h' ∧ Ψ i y (grow s.heap h h')) (fun _ _ => False) { s with heap := h, toks := tk })
    (done : ∀ D C h' tk m' ys n' (Y : Nat → Value), s.heap.StaysIn h' → s.heap.get? D = none → s.heap.get? C = none → D ≠ C → h'.Ns C m' → h'.get? D = some (PySem.W.listOf ys n') → ys.toList = ((List.range items.size).filter p).map Y →
      (∃ g, s.heap.StaysIn g ∧ g.StaysIn h' ∧ g.get? D = none ∧ g.get? C = none ∧ ∀ i, i < items.size → p i = true → Ψ i (Y i) g) →
      compPost (model prog w) A E use Q (.ref D) C (.ok .next) { s with heap := h', toks := tk }) :
    CpAt prog w A env elt iter x px ifs scope pos cl use Q E (.ref l) s := by
  have none_of : ∀ a, s.heap.objs.size ≤ a → s.heap.get? a = none := fun a ha => by
    cases e : s.heap.get? a with
    | none => rfl
    | some o' => exact absurd (Heap.lt_size e) (Nat.not_lt.mpr ha)
  have key : ∀ (io : Obj) (P : Nat → Value → Prop) (St : Nat → Heap → Prop), io.isFreed = false → (∀ i v, P i v → items[i]? = some v) → Walks prog w A s.heap.objs.size [s.heap.objs.size, l] [s.heap.objs.size] items.size P St →
      (∀ i h, St i h → ∃ o, h.get? s.heap.objs.size = some o) → St 0 (s.heap.push io) → l < s.heap.objs.size →
      wpAny (model prog w) A (newList []) (fun acc s₃ => wpAny (model prog w) A (newFunctionEnv scope env.globals cl [] env.qual none .none (some env)) (fun cenv s₄ =>
        codeAny (model prog w) A (.compStart (.ListComp elt [⟨.Name x px, iter, ifs, 0⟩] scope pos) 0 (.ref s.heap.objs.size) acc { cenv with scope := relabel scope env }) (compPost (model prog w) A E use Q acc cenv.locals) s₄) E s₃) E
        { s with heap := s.heap.push io } := by
    intro io P St hio hP W live hst hlt
    refine wpAny_newObj_type (wpAny_newFunctionEnv hcell (by intro y hy; simp at hy) (fun h₁ hns₁ hsb₁ => ?_) hkind)
    dsimp only at hns₁ hsb₁ ⊢
    generalize hH2 : (s.heap.push io).push { cls := .type "list", dict := none, data := .seq ([] : List Value).toArray } = H2 at hns₁ hsb₁ ⊢
    have hI : (s.heap.push io).objs.size = s.heap.objs.size + 1 := Heap.size_push ..
    rw [hI]
    have hC : H2.objs.size = s.heap.objs.size + 2 := by rw [← hH2, Heap.size_push, hI]
    have old : ∀ (b : Nat) o, b < s.heap.objs.size + 2 → H2.get? b = some o → h₁.get? b = some o := fun b o hb e => hsb₁.extBut b o (neN (by rw [hC]; omega)) (Heap.get?_push_of_some _ e)
    have n1 : s.heap.objs.size ≤ s.heap.objs.size + 1 := by omega
    have n2 : s.heap.objs.size ≤ H2.objs.size := by omega
    have n3 : s.heap.objs.size + 1 ≠ H2.objs.size := by omega
    have n4 : s.heap.objs.size < s.heap.objs.size + 2 := by omega
    have n5 : s.heap.objs.size + 1 < s.heap.objs.size + 2 := by omega
    have base : ∀ b o, s.heap.get? b = some o → h₁.get? b = some o := fun b o e => old b o (Nat.lt_trans (Heap.lt_size e) n4) (hH2 ▸ Heap.get?_push_of_some _ (Heap.get?_push_of_some _ e))
    have hacc : h₁.PlainList (s.heap.objs.size + 1) #[] := ⟨0, old _ _ n5 (by rw [← hH2, ← hI]; exact Heap.get?_push_size _ rfl)⟩
    have hst₁ : St 0 h₁ := W.frame _ _ _ hst fun b hb o e => old b o (by rcases List.mem_cons.mp hb with rfl | hb; exact n4; rw [List.mem_singleton.mp hb]; exact Nat.lt_trans hlt n4) (hH2 ▸ Heap.get?_push_of_some _ e)
    have loop : codeAny (model prog w) A (.compLoop (.ListComp elt [⟨.Name x px, iter, ifs, 0⟩] scope pos) 0 (.ref s.heap.objs.size) (.ref (s.heap.objs.size + 1)) (compEnvC scope cl H2.objs.size env))
        (compPost (model prog w) A E use Q (.ref (s.heap.objs.size + 1)) H2.objs.size) { s with heap := h₁, toks := s.toks + ([] : List (Str × Value)).length } := by
      refine comp_turns (cenv := compEnvC scope cl H2.objs.size env) (H := s.heap) p Ψ W hsz mono (lookup_relabel_local hx) (by simp [compEnvC, relabel, hkind]) n3 (fun q => by rcases List.mem_cons.mp q with q | q; exact absurd q (Nat.ne_of_gt (Nat.lt_succ_self _)); exact absurd (List.mem_singleton.mp q) (Nat.ne_of_gt (Nat.lt_succ_of_lt hlt))) (fun q => by rcases List.mem_cons.mp q with q | q; exact absurd (q : H2.objs.size = s.heap.objs.size) (Nat.ne_of_gt (by rw [hC]; exact n4)); exact absurd (List.mem_singleton.mp q : H2.objs.size = l) (Nat.ne_of_gt (Nat.lt_of_lt_of_le hlt n2)))
        (none_of _ (Nat.le_refl _)) (none_of _ n1) (none_of _ n2) live hst₁ hacc hns₁ base
        (fun i v h tk m hi hv hH hn hm => htest _ i v h tk m (hP i v hv) ⟨hn, hH, n2⟩ hm)
        (fun i v h tk m hi hp hv hH hn hm => helt _ i v h tk m hp (hP i v hv) ⟨hn, hH, n2⟩ hm) ?_
      intro h' tk m' ys Y hn ⟨n', hD⟩ hys hH hg
      exact done _ H2.objs.size h' tk m' ys n' Y hH (none_of _ n1) (none_of _ n2) n3 hn hD hys hg
    exact codeAny_compStart_list loop (W.self 0 _ _ _ hst₁ loop)
  rcases hl with hl | hl
  · have hlt : l < s.heap.objs.size := by obtain ⟨o, ho, _⟩ := hl; exact Heap.lt_size ho
    refine wpAny_pyIter_list hl (key _ _ _ rfl (fun _ _ h => h) (Walks.list hh s.heap.objs.size l (Nat.ne_of_lt hlt) items) (fun i h st => ?_) ⟨⟨_, Heap.get?_push_size _ rfl, rfl, rfl⟩, hl.at fun o e => Heap.get?_push_of_some _ e⟩ hlt)
    obtain ⟨⟨o, ho, _⟩, _⟩ := st
    exact ⟨o, ho⟩
  · have hlt : l < s.heap.objs.size := by obtain ⟨o, ho, _⟩ := hl; exact Heap.lt_size ho
    refine wpAny_pyIter_tuple hl (key _ _ _ rfl (fun _ _ h => h) (Walks.tuple hh s.heap.objs.size l (Nat.ne_of_lt hlt) items) (fun i h st => ?_) ⟨⟨_, Heap.get?_push_size _ rfl, rfl, rfl⟩, hl.at fun o e => Heap.get?_push_of_some _ e⟩ hlt)
    obtain ⟨⟨o, ho, _⟩, _⟩ := st
    exact ⟨o, ho⟩
end
/-- the end of an element's walk -/
def EltEnd (s : Shared) (h : Heap) (Φ : Heap → Prop) (s₃ : Shared) : Prop := ∃ h' tk', s₃ = { s with heap := h', toks := tk' } ∧ h.StaysIn h' ∧ Φ (grow s.heap h h')
theorem EltEnd.intro {s : Shared} {h h' : Heap} {Φ : Heap → Prop} {tk : Nat} (k : h.StaysIn h') (p : Φ (grow s.heap h h')) : EltEnd s h Φ { s with heap := h', toks := tk } := ⟨h', tk, rfl, k, p⟩
/-- the end of a test's walk -/
def TestEnd (s : Shared) (h : Heap) (b ok : Bool) (s₃ : Shared) : Prop := ok = b ∧ ∃ h' tk', s₃ = { s with heap := h', toks := tk' } ∧ h.StaysIn h'
theorem TestEnd.intro {s : Shared} {h h' : Heap} {b ok : Bool} {tk : Nat} (e : ok = b) (k : h.StaysIn h') : TestEnd s h b ok { s with heap := h', toks := tk } := ⟨e, h', tk, rfl, k⟩
section
variable {prog : Program} {w : World} {A : Around} {E : Value → Shared → Prop} {s : Shared} {env : Env} {Q : Value → Shared → Prop}
  {elt iter : Expr} {x : Str} {px : Pos} {ifs : List Expr} {scope : Scope} {pos : Pos} {cl : List (Str × Addr)}
theorem forIn_one {α : Type} {M : Model} {A : Around} {E : Value → Shared → Prop} {s : Shared} {Q : Bool → Shared → Prop} {a : α} {f : α → Sem Bool} (h : wpAny M A (f a) Q E s) :
    wpAny M A (forIn [a] true fun c r => if r = true then do let ok ← f c; pure (ForInStep.yield ok) else pure (ForInStep.yield r)) Q E s := by
  rw [List.forIn_cons]
  simp only [if_true]
  refine wpAny_bind (wpAny_bind (wpAny_mono h (fun b s' q => wpAny_pure ?_) fun _ _ e => e))
  dsimp only
  rw [List.forIn_nil]
  exact wpAny_pure q
/-- a comprehension without a test, its value handed on -/
theorem cp_map {l : Addr} {items : Array Value} (hl : s.heap.IsList l items ∨ s.heap.IsTuple l items) (hh : A.handled = none) (hsz : items.size ≤ 1000)
    (hcell : ∀ y ∈ scope.names, y.2 ≠ .cell) (hkind : scope.kind = .function) (hx : scope.names.lookup x = some .local)
    (Ψ : Nat → Value → Heap → Prop) (mono : ∀ i y h h', h.StaysIn h' → Ψ i y h → Ψ i y h')
    (helt : ∀ C i v h tk m, items[i]? = some v → Fr s.heap C h m → m x = some v →
      wpAny (model prog w) A (eval elt (compEnvC scope cl C env)) (fun y s₃ => EltEnd s h (Ψ i y) s₃) (fun _ _ => False) { s with heap := h, toks := tk })
    (done : ∀ D h' tk n' (Y : Nat → Value), s.heap.StaysIn h' → s.heap.get? D = none → h'.get? D = some (LO ((List.range items.size).map Y) n') → (∀ i, i < items.size → Ψ i (Y i) h') → Q (.ref D) { s with heap := h', toks := tk }) :
    CpAt prog w A env elt iter x px [] scope pos cl none Q E (.ref l) s := by
  refine cp_intro hl hh hsz hcell hkind hx (fun _ => true) Ψ mono (fun C i v h tk m _ _ _ => ?_) (fun C i v h tk m _ hv F hm => helt C i v h tk m hv F hm) ?_
  · rw [List.forIn_nil]; exact wpAny_pure ⟨rfl, _, _, rfl, fun _ _ e => e⟩
  · intro D C h' tk m' ys n' Y hs hD hC hne hns hget hys ⟨g, hg1, hg2, hg3, hg4, hg5⟩
    refine ⟨m', hns, fun h'' hs'' => done D h'' tk n' Y (fun b o e => hs''.extBut b o (fun q => by rw [q, hC] at e; cases e) (hs b o e)) hD ?_ fun i hi => mono _ _ _ _ (fun b o e => hs''.extBut b o (fun q => by rw [q, hg4] at e; cases e) (hg2 b o e)) (hg5 i hi rfl)⟩
    have := hs''.extBut D _ hne hget
    rw [List.filter_eq_self.mpr fun _ _ => rfl] at hys
    rw [this]
    obtain ⟨yl⟩ := ys
    simp only at hys
    subst hys
    rfl
/-- a comprehension with one test that hands its items on, its value handed on -/
theorem cp_filter {t : Expr} {l : Addr} {items : Array Value} (hl : s.heap.IsList l items ∨ s.heap.IsTuple l items) (hh : A.handled = none) (hsz : items.size ≤ 1000)
    (hcell : ∀ y ∈ scope.names, y.2 ≠ .cell) (hkind : scope.kind = .function) (hx : scope.names.lookup x = some .local) (p : Nat → Bool)
    (Ψ : Nat → Value → Heap → Prop) (mono : ∀ i y h h', h.StaysIn h' → Ψ i y h → Ψ i y h')
    (htest : ∀ C i v h tk m, items[i]? = some v → Fr s.heap C h m → m x = some v →
      wpAny (model prog w) A (isTrue t (compEnvC scope cl C env) (eval t (compEnvC scope cl C env))) (fun ok s₃ => TestEnd s h (p i) ok s₃) (fun _ _ => False) { s with heap := h, toks := tk })
    (helt : ∀ C i v h tk m, p i = true → items[i]? = some v → Fr s.heap C h m → m x = some v →
      wpAny (model prog w) A (eval elt (compEnvC scope cl C env)) (fun y s₃ => EltEnd s h (Ψ i y) s₃) (fun _ _ => False) { s with heap := h, toks := tk })
    (done : ∀ D h' tk n' (Y : Nat → Value), s.heap.StaysIn h' → s.heap.get? D = none → h'.get? D = some (LO (((List.range items.size).filter p).map Y) n') → (∀ i, i < items.size → p i = true → Ψ i (Y i) h') → Q (.ref D) { s with heap := h', toks := tk }) :
    CpAt prog w A env elt iter x px [t] scope pos cl none Q E (.ref l) s := by
  refine cp_intro hl hh hsz hcell hkind hx p Ψ mono (fun C i v h tk m hv F hm => ?_) (fun C i v h tk m hp hv F hm => helt C i v h tk m hp hv F hm) ?_
  · exact forIn_one (f := fun c => isTrue c (compEnvC scope cl C env) (eval c (compEnvC scope cl C env))) (htest C i v h tk m hv F hm)
  · intro D C h' tk m' ys n' Y hs hD hC hne hns hget hys ⟨g, hg1, hg2, hg3, hg4, hg5⟩
    refine ⟨m', hns, fun h'' hs'' => done D h'' tk n' Y (fun b o e => hs''.extBut b o (fun q => by rw [q, hC] at e; cases e) (hs b o e)) hD ?_ fun i hi hp => mono _ _ _ _ (fun b o e => hs''.extBut b o (fun q => by rw [q, hg4] at e; cases e) (hg2 b o e)) (hg5 i hi hp)⟩
    have := hs''.extBut D _ hne hget
    rw [this]
    obtain ⟨yl⟩ := ys
    simp only at hys
    subst hys
    rfl
end
section
variable {M : Model} {A : Around} {E : Value → Shared → Prop} {s : Shared} {h₀ : Heap} {C : Addr} {m : Str → Option Value} {scope : Scope} {cl : List (Str × Addr)} {env : Env} {x : Str} {pos : Pos} {v : Value} {Q : Value → Shared → Prop}
theorem nameC_L (F : Fr h₀ C s.heap m) (hv : m x = some v) (h : Q v s) (hk : (compEnvC scope cl C env).scope.kind = .function) (hl : (compEnvC scope cl C env).kindOf x = some .local) (hd : (x == ("__debug__" : Str)) = false) :
    wpAny M A (eval (.Name x pos) (compEnvC scope cl C env)) Q E s := wpAny_Name (wpAny_loadName_local hk hl F.ns hv h) hd
theorem nameC_C {c : Addr} {o : Obj} (hc : cl.lookup x = some c) (ho : s.heap.get? c = some o) (hd : o.data = .cell (some v)) (h : Q v s) (hk : (compEnvC scope cl C env).scope.kind = .function) (hl : (compEnvC scope cl C env).kindOf x = some .cell) (hb : (x == ("__debug__" : Str)) = false) :
    wpAny M A (eval (.Name x pos) (compEnvC scope cl C env)) Q E s := wpAny_Name (wpAny_loadName_cell hk hl hc ⟨o, ho, hd⟩ h) hb
theorem forIn_nil_true {α : Type} {Q : Bool → Shared → Prop} {f : α → Bool → Sem (ForInStep Bool)} (h : Q true s) : wpAny M A (forIn ([] : List α) true f) Q E s := by
  rw [List.forIn_nil]; exact wpAny_pure h
end
local macro_rules | `(tactic| walk_at "eval Name") => `(tactic| (k_inBlock; k_dflt (refine' nameC_L ?F ?v ?_ ?k ?l ?d; (case k => rfl); (case l => rfl); (case d => decide); (case F => with_reducible assumption); (case v => with_reducible assumption); k_whole)))
local macro_rules | `(tactic| walk_at "eval ListComp") => `(tactic| (k_here; k_dflt (refine' cp_eval (cl := []) ?c ?k ?n ?_ ?s; (case c => exact closureFor_none (by decide)); (case k => rfl); (case n => decide); (case s => (intro _; rfl)))))
section
variable {prog : Program} {w : World} {A : Around} {E : Value → Shared → Prop} {s : Shared} {env : Env} {h₀ : Heap} {x : Str} {body : List Stmt} {Q : Flow → Shared → Prop}
/-- the end of a turn that goes on -/
def ItEnd (h₀ : Heap) (L : Addr) (J : (Str → Option Value) → List (Addr × Obj) → Prop) (I : Addr) (io : Obj) (s₁ s₂ : Shared) : Prop :=
  ∃ h' tk m' nw, s₂ = { s₁ with heap := h', toks := tk } ∧ Fr h₀ L h' m' ∧ News h₀ L h' ((I, io) :: nw) ∧ (∀ p ∈ nw, p.1 ≠ I) ∧ J m' nw
theorem ItEnd.intro {L : Addr} {J : (Str → Option Value) → List (Addr × Obj) → Prop} {I : Addr} {io : Obj} {s₁ : Shared} {h' : Heap} {tk : Nat} {m' : Str → Option Value} {nw : List (Addr × Obj)}
    (F : Fr h₀ L h' m') (N : News h₀ L h' ((I, io) :: nw)) (ne : ∀ p ∈ nw, p.1 ≠ I) (hj : J m' nw) : ItEnd h₀ L J I io s₁ { s₁ with heap := h', toks := tk } := ⟨h', tk, m', nw, rfl, F, N, ne, hj⟩
def ItPost (h₀ : Heap) (L : Addr) (J : (Str → Option Value) → List (Addr × Obj) → Prop) (I : Addr) (io : Obj) (s₁ : Shared) (Q : Flow → Shared → Prop) (f : Flow) (s₂ : Shared) : Prop :=
  match f with
  | .ret v => Q (.ret v) s₂
  | .brk => Q .next s₂
  | _ => ItEnd h₀ L J I io s₁ s₂

theorem iter_core {I : Addr} {ito : Obj} {fp : List Addr} {n : Nat} {P : Nat → Value → Prop} {St : Nat → Heap → Prop} {m₀ : Str → Option Value} {news : List (Addr × Obj)} (J : Nat → (Str → Option Value) → List (Addr × Obj) → Prop)
    (hI : I = s.heap.objs.size) (W : Walks prog w A I fp [I] n P St) (live : ∀ i h, St i h → ∃ o, h.get? I = some o) (hito : ito.isFreed = false) (hLf : env.locals ∉ fp)
    (hsrc : ∀ b ∈ fp, b = I ∨ (∃ o, h₀.get? b = some o) ∨ ∃ o, ∀ i m nw, J i m nw → (b, o) ∈ nw)
    (hIf : I ∈ fp) (hst : St 0 (s.heap.push ito)) (F : Fr h₀ env.locals s.heap m₀) (N : News h₀ env.locals s.heap news) (hj : J 0 m₀ news)
    (turn : ∀ i v m₁ news₁ h tk io, i < n → P i v → J i m₁ news₁ → (∀ p ∈ news₁, p.1 ≠ I) → Fr h₀ env.locals h (fun y => if y = x then some v else m₁ y) → News h₀ env.locals h ((I, io) :: news₁) →
      wpAny (model prog w) A (execs body env) (ItPost h₀ env.locals (J (i + 1)) I io { s with heap := h, toks := tk } Q) E { s with heap := h, toks := tk })
    (done : ∀ m₁ news₁ h tk, J n m₁ news₁ → Fr h₀ env.locals h m₁ → News h₀ env.locals h news₁ → Q .next { s with heap := h, toks := tk }) :
    LoopAtV prog w A h₀ env x body Q E (.ref I) { s with heap := s.heap.push ito } := by
  have hI0 : h₀.get? I = none := by rw [hI]; exact next_is_new F
  refine ⟨I, fp, [I], n, P, St, m₀, news, J, rfl, W, hLf, ?_, ?_, hst, F.push _, (fun p hp => ⟨Heap.get?_push_of_some _ (N p hp).1, (N p hp).2⟩), hj, ?_, ?_⟩
  · intro b hb; rw [List.mem_singleton.mp hb]; exact hI0
  · intro p hp q
    have := Heap.lt_size (N p hp).1
    rw [List.mem_singleton.mp q, hI] at this
    exact Nat.lt_irrefl _ this
  · rintro i v m₁ news₁ s₁ own ⟨hh, tk, rfl⟩ hi hP hJ hoff hown hval hall hst' F₁ N₁
    obtain ⟨io, hio⟩ := live _ _ hst'
    have hIown : (I, io) ∈ own := hall I hIf hI0 io hio
    have N₂ : News h₀ env.locals hh ((I, io) :: news₁) := fun p hp => by
      rcases List.mem_cons.mp hp with rfl | hp
      · exact N₁ _ (List.mem_append.mpr (.inl hIown))
      · exact N₁ _ (List.mem_append.mpr (.inr hp))
    refine wpAny_mono (turn i v m₁ news₁ hh tk io hi hP hJ (fun p hp q => hoff p hp (by rw [q]; exact .head _)) F₁ N₂) (fun f s₂ q => ?_) fun _ _ e => e
    have fin : ItEnd h₀ env.locals (J (i + 1)) I io { s with heap := hh, toks := tk } s₂ → LoopStepU h₀ env.locals [I] own (J (i + 1)) { s with heap := hh, toks := tk } .next s₂ := by
      rintro ⟨h', tk', m', nw, e, F', N', ne, hm⟩
      refine ⟨rfl, h', tk', m', nw, e, F', fun p hp => ?_, fun p hp z => ne p hp (List.mem_singleton.mp z), hm⟩
      rcases List.mem_append.mp hp with hp | hp
      · rcases hsrc p.1 (hown p hp) with z | ⟨o, z⟩ | ⟨o, z⟩
        · have e1 := hval p hp
          rw [z] at e1
          have : p = (I, io) := Prod.ext z (Option.some.inj (e1.symm.trans hio))
          rw [this]; exact N' _ (.head _)
        · have := (N₁ p (List.mem_append.mpr (.inl hp))).2.2
          rw [z] at this; cases this
        · have e1 := hval p hp
          have e2 := (N₁ _ (List.mem_append.mpr (.inr (z i m₁ news₁ hJ)))).1
          have : p = (p.1, o) := Prod.ext rfl (Option.some.inj (e1.symm.trans e2))
          rw [this]; exact N' _ (.tail _ (z _ _ _ hm))
      · exact N' _ (.tail _ hp)
    cases f with
    | ret v => exact .ret q
    | brk => exact .brk q
    | next => exact .next (fin q)
    | cont => exact .cont (fin q)
  · rintro h' tk m' news' F' N' _ hJ
    exact done m' news' h' tk hJ F' N'

theorem iter_items {l : Addr} {items : Array Value} {m₀ : Str → Option Value} {news : List (Addr × Obj)} (J : Nat → (Str → Option Value) → List (Addr × Obj) → Prop)
    (hh : A.handled = none) (hl : s.heap.IsList l items ∨ s.heap.IsTuple l items) (hlL : l ≠ env.locals)
    (hsrc : (∃ o, h₀.get? l = some o) ∨ ∃ o, ∀ i m nw, J i m nw → (l, o) ∈ nw)
    (F : Fr h₀ env.locals s.heap m₀) (N : News h₀ env.locals s.heap news) (hj : J 0 m₀ news)
    (turn : ∀ i v m₁ news₁ h tk I io, items[i]? = some v → J i m₁ news₁ → (∀ p ∈ news₁, p.1 ≠ I) → Fr h₀ env.locals h (fun y => if y = x then some v else m₁ y) → News h₀ env.locals h ((I, io) :: news₁) →
      wpAny (model prog w) A (execs body env) (ItPost h₀ env.locals (J (i + 1)) I io { s with heap := h, toks := tk } Q) E { s with heap := h, toks := tk })
    (done : ∀ m₁ news₁ h tk, J items.size m₁ news₁ → Fr h₀ env.locals h m₁ → News h₀ env.locals h news₁ → Q .next { s with heap := h, toks := tk }) :
    wpAny (model prog w) A (pyIter (.ref l)) (fun it s₂ => LoopAtV prog w A h₀ env x body Q E it s₂) E s := by
  have hlt : l < s.heap.objs.size := by rcases hl with ⟨o, ho, _⟩ | ⟨o, ho, _⟩ <;> exact Heap.lt_size ho
  have hne : l ≠ s.heap.objs.size := Nat.ne_of_lt hlt
  have hLf : env.locals ∉ [s.heap.objs.size, l] := fun q => by
    rcases List.mem_cons.mp q with q | q
    · exact absurd F.ns.lt (q ▸ Nat.lt_irrefl _)
    · exact hlL (List.mem_singleton.mp q).symm
  have hs : ∀ b ∈ [s.heap.objs.size, l], b = s.heap.objs.size ∨ (∃ o, h₀.get? b = some o) ∨ ∃ o, ∀ i m nw, J i m nw → (b, o) ∈ nw := fun b hb => by
    rcases List.mem_cons.mp hb with q | q
    · exact .inl q
    · rw [List.mem_singleton.mp q]; exact .inr hsrc
  rcases hl with hl | hl
  · refine wpAny_pyIter_list hl (iter_core J rfl (Walks.list hh s.heap.objs.size l hne items) (fun i h st => ?_) rfl hLf hs (.head _) ⟨⟨_, Heap.get?_push_size _ rfl, rfl, rfl⟩, hl.at fun o e => Heap.get?_push_of_some _ e⟩ F N hj
      (fun i v m₁ news₁ h tk io _ hv hJ ne F' N' => turn i v m₁ news₁ h tk _ io hv hJ ne F' N') done)
    obtain ⟨⟨o, ho, _⟩, _⟩ := st
    exact ⟨o, ho⟩
  · refine wpAny_pyIter_tuple hl (iter_core J rfl (Walks.tuple hh s.heap.objs.size l hne items) (fun i h st => ?_) rfl hLf hs (.head _) ⟨⟨_, Heap.get?_push_size _ rfl, rfl, rfl⟩, hl.at fun o e => Heap.get?_push_of_some _ e⟩ F N hj
      (fun i v m₁ news₁ h tk io _ hv hJ ne F' N' => turn i v m₁ news₁ h tk _ io hv hJ ne F' N') done)
    obtain ⟨⟨o, ho, _⟩, _⟩ := st
    exact ⟨o, ho⟩
end
local macro_rules | `(tactic| walk_at "exec For") => `(tactic| (k_here; (with_reducible show wpAny _ _ (exec (Stmt.For _ _ _ [] _) _) _ _ _); (rename Fr _ _ _ _ => lF'); (with_unfolding_all refine' For_invVF lF' ?k1 ?k2 ?_; (case k1 => exact rfl); (case k2 => exact rfl); k_whole)))
local macro_rules | `(tactic| walk_at "ItPost") => `(tactic| (dsimp only [ItPost]))

theorem instUp {h h' : Heap} {x C : Addr} {ox : Obj} {od : Obj} {dx : Addr} (hd : ox.dict = some dx) (k : h.StaysIn h') (I : InstAt h x ox C (some od)) : InstAt h' x ox C (some od) := by
  obtain ⟨a, b, c, d⟩ := I
  refine ⟨k _ _ a, b, c, ?_⟩
  rw [hd] at d ⊢
  exact k _ _ d

/-! letters -/
abbrev LEs (H : Nat → Int) (T : Nat → Tok) (u o f i m : Value) : List DictEntry :=
  [⟨H 0, .str (Str.ofString "uid") (T 0), u⟩, ⟨H 1, .str (Str.ofString "octets") (T 1), o⟩, ⟨H 2, .str (Str.ofString "flags") (T 2), f⟩, ⟨H 3, .str (Str.ofString "instant") (T 3), i⟩, ⟨H 4, .str (Str.ofString "modseq") (T 4), m⟩]
def LetterAt (h : Heap) (l : Addr) (u : Int) (tp : Addr) (m : Int) : Prop :=
  ∃ d H T n tu tb ti i tm, InstAt h l (instObj 239 d) 239 (some (dictOf (LEs H T (.int u tu) (.bytes #[120] tb) (.ref tp) (.int i ti) (.int m tm)) n))
theorem LetterAt.mk {h : Heap} {l d tp : Addr} {u i m : Int} {tu tb ti tm t0 t1 t2 t3 t4 : Tok} {h0 h1 h2 h3 h4 : Int} {n : Nat} (e1 : h.get? l = some (instObj 239 d))
    (e2 : h.get? d = some (dictOf [⟨h0, .str (Str.ofString "uid") t0, .int u tu⟩, ⟨h1, .str (Str.ofString "octets") t1, .bytes #[120] tb⟩, ⟨h2, .str (Str.ofString "flags") t2, .ref tp⟩, ⟨h3, .str (Str.ofString "instant") t3, .int i ti⟩, ⟨h4, .str (Str.ofString "modseq") t4, .int m tm⟩] n)) :
    LetterAt h l u tp m := ⟨d, fun j => [h0, h1, h2, h3, h4].getD j 0, fun j => [t0, t1, t2, t3, t4].getD j 0, n, tu, tb, ti, i, tm, e1, rfl, rfl, e2⟩
/-- a letter that a call made -/
def LetterNew (h₀ h : Heap) (l : Addr) (u : Int) (tp : Addr) (m : Int) : Prop :=
  ∃ d H T n tu tb ti i tm, h₀.get? d = none ∧ h.get? l = some (instObj 239 d) ∧ h.get? d = some (dictOf (LEs H T (.int u tu) (.bytes #[120] tb) (.ref tp) (.int i ti) (.int m tm)) n)
theorem LetterNew.elim {h₀ h : Heap} {l : Addr} {u : Int} {tp : Addr} {m : Int} (z : LetterNew h₀ h l u tp m) {P : Prop} (k : ∀ (d : Addr) (H : Nat → Int) (T : Nat → Tok) (n : Nat) (tu tb ti : Tok) (i : Int) (tm : Tok), h₀.get? d = none → h.get? l = some (instObj 239 d) → h.get? d = some (dictOf (LEs H T (.int u tu) (.bytes #[120] tb) (.ref tp) (.int i ti) (.int m tm)) n) → P) : P := by
  obtain ⟨d, H, T, n, tu, tb, ti, i, tm, e1, e2, e3⟩ := z
  exact k d H T n tu tb ti i tm e1 e2 e3
theorem LetterNew.mk {h₀ h : Heap} {l d tp : Addr} {u i m : Int} {tu tb ti tm t0 t1 t2 t3 t4 : Tok} {h0 h1 h2 h3 h4 : Int} {n : Nat} (ed : h₀.get? d = none) (e1 : h.get? l = some (instObj 239 d))
    (e2 : h.get? d = some (dictOf [⟨h0, .str (Str.ofString "uid") t0, .int u tu⟩, ⟨h1, .str (Str.ofString "octets") t1, .bytes #[120] tb⟩, ⟨h2, .str (Str.ofString "flags") t2, .ref tp⟩, ⟨h3, .str (Str.ofString "instant") t3, .int i ti⟩, ⟨h4, .str (Str.ofString "modseq") t4, .int m tm⟩] n)) :
    LetterNew h₀ h l u tp m := ⟨d, fun j => [h0, h1, h2, h3, h4].getD j 0, fun j => [t0, t1, t2, t3, t4].getD j 0, n, tu, tb, ti, i, tm, ed, e1, e2⟩
theorem LetterAt.growMk {g s g₁ h' : Heap} {L l d tp : Addr} {u i m : Int} {tu tb ti tm : Tok} {H : Nat → Int} {T : Nat → Tok} {n : Nat} {news : List (Addr × Obj)} (N : News g₁ L h' news) (hl : (l, instObj 239 d) ∈ news)
    (hd' : (d, dictOf (LEs H T (.int u tu) (.bytes #[120] tb) (.ref tp) (.int i ti) (.int m tm)) n) ∈ news) (fl : s.get? l = none) (fd : s.get? d = none) : LetterAt (grow g s h') l u tp m :=
  ⟨d, H, T, n, tu, tb, ti, i, tm, grow_new (N.get hl) fl, rfl, rfl, grow_new (N.get hd') fd⟩
theorem LetterAt.up {h h' : Heap} {l : Addr} {u : Int} {tp : Addr} {m : Int} (k : h.StaysIn h') : LetterAt h l u tp m → LetterAt h' l u tp m := by
  rintro ⟨d, H, T, n, tu, tb, ti, i, tm, I⟩
  exact ⟨d, H, T, n, tu, tb, ti, i, tm, instUp rfl k I⟩
/-- letters with the uids 1 .. n -/
def LettersIn (h : Heap) (n : Nat) (l : Nat → Addr) (tp : Nat → Addr) (ms : Nat → Int) : Prop := ∀ i, i < n → LetterAt h (l i) ((i : Int) + 1) (tp i) (ms i)
theorem LettersIn.at {h : Heap} {n : Nat} {l tp : Nat → Addr} {ms : Nat → Int} (x : LettersIn h n l tp ms) {i : Nat} (hi : i < n) : LetterAt h (l i) ((i : Int) + 1) (tp i) (ms i) := x i hi
theorem LettersIn.up {h h' : Heap} {n : Nat} {l tp : Nat → Addr} {ms : Nat → Int} (k : h.StaysIn h') (x : LettersIn h n l tp ms) : LettersIn h' n l tp ms := fun i hi => (x i hi).up k
/-- the letters' list and its letters: uids 1 .. n -/
structure LettersAt (h : Heap) (ll : Addr) (n : Nat) (l : Nat → Addr) (tp : Nat → Addr) (ms : Nat → Int) : Prop where
  li : ∃ k, h.get? ll = some (LO ((List.range n).map fun i => .ref (l i)) k)
  le : LettersIn h n l tp ms
theorem LettersAt.up {h h' : Heap} {ll : Addr} {n : Nat} {l tp : Nat → Addr} {ms : Nat → Int} (k : h.StaysIn h') (x : LettersAt h ll n l tp ms) : LettersAt h' ll n l tp ms :=
  ⟨x.li.imp fun _ e => k _ _ e, fun i hi => (x.le i hi).up k⟩
theorem LettersAt.mix {h₀ h : Heap} {L ll : Addr} {m : Str → Option Value} {n k : Nat} {l tp : Nat → Addr} {ms : Nat → Int} {news : List (Addr × Obj)} (F : Fr h₀ L h m) (N : News h₀ L h news) (hm : (ll, LO ((List.range n).map fun i => .ref (l i)) k) ∈ news) (x : LettersIn h₀ n l tp ms) : LettersAt h ll n l tp ms :=
  ⟨⟨k, N.get hm⟩, x.up F.keep⟩
theorem LettersAt.isList {h : Heap} {ll : Addr} {n : Nat} {l tp : Nat → Addr} {ms : Nat → Int} (x : LettersAt h ll n l tp ms) : h.IsList ll ((List.range n).map fun i => Value.ref (l i)).toArray := by
  obtain ⟨k, e⟩ := x.li
  exact ⟨_, e, rfl, k, rfl⟩

section
variable {w : World} {A : Around} {E : Value → Shared → Prop} {s : Shared} {h₀ : Heap} {L l : Addr} {m : Str → Option Value} {Q : Value → Shared → Prop} {u ms : Int} {tp : Addr} {ex : Bool}
theorem letter_uid (X : (heapK w.params).In h₀) (F : Fr h₀ L s.heap m) (hL : LetterAt h₀ l u tp ms) (h : ∀ t, Q (.int u t) { s with toks := s.toks + 1 }) : wpAny (model PG w) A (getAttr (.ref l) (Str.ofString "uid") ex) Q E s := by
  obtain ⟨d, H, T, n, tu, tb, ti, i, tm, I⟩ := hL
  refine' get_own F X (instUp rfl F.keep I) ?a ?b ?c ?d ?e ?f (h tu)
  case a => k_is
  case b => k_is
  case c => k_is
  case d => k_is
  case e => k_get
  case f => k_handed
theorem letter_flags (X : (heapK w.params).In h₀) (F : Fr h₀ L s.heap m) (hL : LetterAt h₀ l u tp ms) (h : Q (.ref tp) { s with toks := s.toks + 1 }) : wpAny (model PG w) A (getAttr (.ref l) (Str.ofString "flags") ex) Q E s := by
  obtain ⟨d, H, T, n, tu, tb, ti, i, tm, I⟩ := hL
  refine' get_own F X (instUp rfl F.keep I) ?a ?b ?c ?d ?e ?f h
  case a => k_is
  case b => k_is
  case c => k_is
  case d => k_is
  case e => k_get
  case f => k_handed
theorem letter_modseq (X : (heapK w.params).In h₀) (F : Fr h₀ L s.heap m) (hL : LetterAt h₀ l u tp ms) (h : ∀ t, Q (.int ms t) { s with toks := s.toks + 1 }) : wpAny (model PG w) A (getAttr (.ref l) (Str.ofString "modseq") ex) Q E s := by
  obtain ⟨d, H, T, n, tu, tb, ti, i, tm, I⟩ := hL
  refine' get_own F X (instUp rfl F.keep I) ?a ?b ?c ?d ?e ?f (h tm)
  case a => k_is
  case b => k_is
  case c => k_is
  case d => k_is
  case e => k_get
  case f => k_handed
theorem letter_octets (X : (heapK w.params).In h₀) (F : Fr h₀ L s.heap m) (hL : LetterAt h₀ l u tp ms) (h : ∀ t, Q (.bytes #[120] t) { s with toks := s.toks + 1 }) : wpAny (model PG w) A (getAttr (.ref l) (Str.ofString "octets") ex) Q E s := by
  obtain ⟨d, H, T, n, tu, tb, ti, i, tm, I⟩ := hL
  refine' get_own F X (instUp rfl F.keep I) ?a ?b ?c ?d ?e ?f (h tb)
  case a => k_is
  case b => k_is
  case c => k_is
  case d => k_is
  case e => k_get
  case f => k_handed
theorem letter_instant (X : (heapK w.params).In h₀) (F : Fr h₀ L s.heap m) (hL : LetterAt h₀ l u tp ms) (h : ∀ i t, Q (.int i t) { s with toks := s.toks + 1 }) : wpAny (model PG w) A (getAttr (.ref l) (Str.ofString "instant") ex) Q E s := by
  obtain ⟨d, H, T, n, tu, tb, ti, i, tm, I⟩ := hL
  refine' get_own F X (instUp rfl F.keep I) ?a ?b ?c ?d ?e ?f (h i ti)
  case a => k_is
  case b => k_is
  case c => k_is
  case d => k_is
  case e => k_get
  case f => k_handed
theorem letters_item {value slice : Expr} {ll : Addr} {n : Nat} {l tp : Nat → Addr} {ms : Nat → Int} {k : Int} {t : Tok} (hL : LettersAt s.heap ll n l tp ms) (h0 : 0 ≤ k) (h1 : k < n) (hn : n ≤ 100)
    (h : Q (.ref (l k.toNat)) s) (hs : subscripted slice false (.ref ll) (.int k t) = operate [.ref ll, .int k t] (getItem (.ref ll) (.int k t)) := by with_unfolding_all rfl) :
    wpAny (model PG w) A (subscriptTail value slice (.ref ll) (.int k t)) Q E s := by
  have hl := hL.isList
  refine tail_any hl.typeIs slot_list_getitem.lookup (wpAny_getItem_list (x := .ref (l k.toNat)) hl h0 (by omega) ?_ h) hs
  have : k.toNat < n := by omega
  simp [this]
end

/-! the box -/
abbrev BEs (H : Nat → Int) (T : Nat → Tok) (nm vl nx tp fl lt gn : Value) : List DictEntry :=
  [⟨H 0, .str (Str.ofString "name") (T 0), nm⟩, ⟨H 1, .str (Str.ofString "validity") (T 1), vl⟩, ⟨H 2, .str (Str.ofString "next_uid") (T 2), nx⟩, ⟨H 3, .str (Str.ofString "top") (T 3), tp⟩, ⟨H 4, .str (Str.ofString "floor") (T 4), fl⟩, ⟨H 5, .str (Str.ofString "letters") (T 5), lt⟩, ⟨H 6, .str (Str.ofString "gone") (T 6), gn⟩]
def BoxD (ll : Addr) (nx top : Int) (o : Obj) : Prop :=
  ∃ H T n nm vl t1 t2 fl gn, o = dictOf (BEs H T nm vl (.int nx t1) (.int top t2) fl (.ref ll) gn) n
theorem BoxD.elim2 {h : Heap} {ll bd : Addr} {nx top : Int} {o : Obj} (b : BoxD ll nx top o) (e : h.get? bd = some o) {P : Prop} (k : ∀ (H : Nat → Int) (T : Nat → Tok) (n : Nat) (nm vl : Value) (t1 t2 : Tok) (fl gn : Value), h.get? bd = some (dictOf (BEs H T nm vl (.int nx t1) (.int top t2) fl (.ref ll) gn) n) → P) : P := by
  obtain ⟨H, T, n, nm, vl, t1, t2, fl, gn, rfl⟩ := b
  exact k _ _ _ _ _ _ _ _ _ e
structure BoxAt (h : Heap) (box bd ll : Addr) (nx top : Int) : Prop where
  bx : h.get? box = some (instObj 277 bd)
  dc : ∃ o, h.get? bd = some o ∧ BoxD ll nx top o
theorem BoxAt.up {h h' : Heap} {box bd ll : Addr} {nx top : Int} (k : h.StaysIn h') (x : BoxAt h box bd ll nx top) : BoxAt h' box bd ll nx top :=
  ⟨k _ _ x.bx, let ⟨o, e, d⟩ := x.dc; ⟨o, k _ _ e, d⟩⟩
theorem BoxAt.mix {h₀ h : Heap} {L box bd ll : Addr} {m : Str → Option Value} {H : Nat → Int} {T : Nat → Tok} {nm vl fl gn : Value} {nx top : Int} {t1 t2 : Tok} {n : Nat} {news : List (Addr × Obj)} (F : Fr h₀ L h m) (N : News h₀ L h news) (hx : h₀.get? box = some (instObj 277 bd))
    (hm : (bd, dictOf (BEs H T nm vl (.int nx t1) (.int top t2) fl (.ref ll) gn) n) ∈ news) : BoxAt h box bd ll nx top := ⟨F.keep _ _ hx, _, N.get hm, _, _, _, _, _, _, _, _, _, rfl⟩
section
variable {w : World} {A : Around} {E : Value → Shared → Prop} {s : Shared} {h₀ : Heap} {L box bd ll : Addr} {m : Str → Option Value} {Q : Value → Shared → Prop} {nx top : Int} {ex : Bool}
theorem box_letters (X : (heapK w.params).In h₀) (F : Fr h₀ L s.heap m) (hB : BoxAt s.heap box bd ll nx top) (h : Q (.ref ll) { s with toks := s.toks + 1 }) : wpAny (model PG w) A (getAttr (.ref box) (Str.ofString "letters") ex) Q E s := by
  obtain ⟨bx, o, e, H, T, n, nm, vl, t1, t2, fl, gn, rfl⟩ := hB
  refine' get_own F X ⟨bx, rfl, rfl, e⟩ ?a ?b ?c ?d ?e ?f h
  case a => k_is
  case b => k_is
  case c => k_is
  case d => k_is
  case e => k_get
  case f => k_handed
theorem box_meth_letter {pl : Sem Bool} {Q : Value × List Value → Shared → Prop} (X : (heapK w.params).In h₀) (F : Fr h₀ L s.heap m) (hB : BoxAt s.heap box bd ll nx top) (h : Q (.ref 264, [.ref box]) s) : wpAny (model PG w) A (getMethod (.ref box) (Str.ofString "letter") pl) Q E s := by
  obtain ⟨bx, o, e, H, T, n, nm, vl, t1, t2, fl, gn, rfl⟩ := hB
  refine' method_inst F X ⟨bx, rfl, rfl, e⟩ ?a ?b ?c ?d h
  case a => k_is
  case b => k_is
  case c => k_is
  case d => k_get
theorem box_meth_uids {pl : Sem Bool} {Q : Value × List Value → Shared → Prop} (X : (heapK w.params).In h₀) (F : Fr h₀ L s.heap m) (hB : BoxAt s.heap box bd ll nx top) (h : Q (.ref 269, [.ref box]) s) : wpAny (model PG w) A (getMethod (.ref box) (Str.ofString "uids") pl) Q E s := by
  obtain ⟨bx, o, e, H, T, n, nm, vl, t1, t2, fl, gn, rfl⟩ := hB
  refine' method_inst F X ⟨bx, rfl, rfl, e⟩ ?a ?b ?c ?d h
  case a => k_is
  case b => k_is
  case c => k_is
  case d => k_get
end
theorem fd2 (x : Int) : Int.fdiv x 2 = x / 2 := Int.fdiv_eq_ediv_of_nonneg x (by decide)
theorem pyLen_list {w : World} {A : Around} {E : Value → Shared → Prop} {s : Shared} {h₀ : Heap} {L ll : Addr} {m : Str → Option Value} {Q : Value → Shared → Prop} {n : Nat} {l tp : Nat → Addr} {ms : Nat → Int}
    (F : Fr h₀ L s.heap m) (hL : LettersAt h₀ ll n l tp ms) (hn : n ≤ 100) (h : Q (.int n (s.toks + 1)) { s with toks := s.toks + 1 + 1 }) : wpAny (model PG w) A (call (.builtin "len") [.ref ll]) Q E s := by
  have hl := (hL.up F.keep).isList
  have e : ((List.range n).map fun i => Value.ref (l i)).toArray.size = n := by simp
  exact call_len_list hl (by rw [e]; omega) (by rw [e]; exact h)
theorem updMem {d : Addr} {o o' : Obj} : ∀ {l l' : List (Addr × Obj)}, Upd d o o' l l' → (d, o) ∈ l
  | _, _, .head _ => .head _
  | _, _, .tail _ r => .tail _ (updMem r)
section
variable {w : World} {A : Around} {E : Value → Shared → Prop} {s : Shared} {h₀ : Heap} {L box bd : Addr} {m : Str → Option Value} {Q : Unit → Shared → Prop} {H : Nat → Int} {T : Nat → Tok} {nm vl nx tp fl lt gn v : Value} {n : Nat} {news news' : List (Addr × Obj)}
theorem box_set_top (X : (heapK w.params).In h₀) (F : Fr h₀ L s.heap m) (N : News h₀ L s.heap news) (hx : h₀.get? box = some (instObj 277 bd)) (U : Upd bd (dictOf (BEs H T nm vl nx tp fl lt gn) n) (dictOf (BEs H T nm vl nx v fl lt gn) n) news news')
    (k : ∀ h', Fr h₀ L h' m → News h₀ L h' news' → Q () { s with heap := h', toks := s.toks + 2 }) : wpAny (model PG w) A (setAttr (.ref box) (Str.ofString "top") v) Q E s := by
  refine' set_dict (es' := BEs H T nm vl nx v fl lt gn) (n' := n) F X N (inst_hl F N hx (updMem U)) rfl ?a ?b ?c ?d ?e ?f U (by simp) k
  case a => k_is
  case b => k_is
  case c => k_is
  case d => k_is
  case e => rfl
  case f => rfl
theorem box_set_next (X : (heapK w.params).In h₀) (F : Fr h₀ L s.heap m) (N : News h₀ L s.heap news) (hx : h₀.get? box = some (instObj 277 bd)) (U : Upd bd (dictOf (BEs H T nm vl nx tp fl lt gn) n) (dictOf (BEs H T nm vl v tp fl lt gn) n) news news')
    (k : ∀ h', Fr h₀ L h' m → News h₀ L h' news' → Q () { s with heap := h', toks := s.toks + 2 }) : wpAny (model PG w) A (setAttr (.ref box) (Str.ofString "next_uid") v) Q E s := by
  refine' set_dict (es' := BEs H T nm vl v tp fl lt gn) (n' := n) F X N (inst_hl F N hx (updMem U)) rfl ?a ?b ?c ?d ?e ?f U (by simp) k
  case a => k_is
  case b => k_is
  case c => k_is
  case d => k_is
  case e => rfl
  case f => rfl
end
local macro_rules | `(tactic| walk_at "setAttr ref") => `(tactic| (k_here; k_dflt (first
  | ((with_reducible show wpAny _ _ (setAttr (Value.ref _) (PySem.Str.ofString "top") _) _ _ _); k_dflt (refine' box_set_top ?X ?F ?N ?h ?U ?_; (case X => k_asm); (case F => k_asm); (case N => k_asm); (case h => with_reducible assumption); (case U => k_upd); k_whole); intro h' F' N'; (try k_sweep))
  | ((with_reducible show wpAny _ _ (setAttr (Value.ref _) (PySem.Str.ofString "next_uid") _) _ _ _); k_dflt (refine' box_set_next ?X ?F ?N ?h ?U ?_; (case X => k_asm); (case F => k_asm); (case N => k_asm); (case h => with_reducible assumption); (case U => k_upd); k_whole); intro h' F' N'; (try k_sweep)))))
local macro_rules | `(tactic| walk_at "my letter") => `(tactic| first | with_reducible assumption | exact LettersIn.at (LettersAt.le (by with_reducible assumption)) (by first | omega | (simp only [fd2] at * <;> omega)) | exact LettersIn.at (by with_reducible assumption) (by first | omega | (simp only [fd2] at * <;> omega)))
local macro_rules | `(tactic| walk_at "my letters") => `(tactic| first | exact LettersAt.up (Fr.keep (by with_reducible assumption)) (by with_reducible assumption) | exact LettersAt.mix (by with_reducible assumption) (by with_reducible assumption) (by k_mem) (by with_reducible assumption))
local macro_rules | `(tactic| walk_at "my box") => `(tactic| first | exact BoxAt.up (Fr.keep (by with_reducible assumption)) (by with_reducible assumption) | exact BoxAt.mix (by with_reducible assumption) (by with_reducible assumption) (by with_reducible assumption) (by k_mem))
local macro_rules | `(tactic| walk_at "subscriptTail") => `(tactic| (k_here; k_dflt (refine letters_item (by walk_at "my letters") (by first | omega | (simp only [fd2] at * <;> omega)) (by first | omega | (simp only [fd2] at * <;> omega)) (by omega) ?_)))
local macro_rules | `(tactic| walk_at "call builtin:len") => `(tactic| (k_here; k_dflt (refine pyLen_list (by with_reducible assumption) (by with_reducible assumption) (by omega) ?_)))
local macro_rules | `(tactic| walk_at "getAttr ref") => `(tactic| (k_here; k_dflt (first
  | ((with_reducible show wpAny _ _ (getAttr (Value.ref _) (PySem.Str.ofString "uid") _) _ _ _); refine letter_uid (by with_reducible assumption) (by with_reducible assumption) (by walk_at "my letter") ?_; intro t')
  | ((with_reducible show wpAny _ _ (getAttr (Value.ref _) (PySem.Str.ofString "flags") _) _ _ _); refine letter_flags (by with_reducible assumption) (by with_reducible assumption) (by walk_at "my letter") ?_)
  | ((with_reducible show wpAny _ _ (getAttr (Value.ref _) (PySem.Str.ofString "modseq") _) _ _ _); refine letter_modseq (by with_reducible assumption) (by with_reducible assumption) (by walk_at "my letter") ?_; intro t')
  | ((with_reducible show wpAny _ _ (getAttr (Value.ref _) (PySem.Str.ofString "octets") _) _ _ _); refine letter_octets (by with_reducible assumption) (by with_reducible assumption) (by walk_at "my letter") ?_; intro t')
  | ((with_reducible show wpAny _ _ (getAttr (Value.ref _) (PySem.Str.ofString "instant") _) _ _ _); refine letter_instant (by with_reducible assumption) (by with_reducible assumption) (by walk_at "my letter") ?_; intro i' t')
  | ((with_reducible show wpAny _ _ (getAttr (Value.ref _) (PySem.Str.ofString "letters") _) _ _ _); refine box_letters (by with_reducible assumption) (by with_reducible assumption) (by walk_at "my box") ?_))))
local macro_rules | `(tactic| walk_at "getMethod ref") => `(tactic| (k_here; k_dflt (first
  | ((with_reducible show wpAny _ _ (getMethod (Value.ref _) (PySem.Str.ofString "letter") _) _ _ _); refine box_meth_letter (by with_reducible assumption) (by with_reducible assumption) (by walk_at "my box") ?_)
  | ((with_reducible show wpAny _ _ (getMethod (Value.ref _) (PySem.Str.ofString "uids") _) _ _ _); refine box_meth_uids (by with_reducible assumption) (by with_reducible assumption) (by walk_at "my box") ?_))))
theorem draw_spec {w : World} {mg mb : Str → Option Value} {dep un : Nat} {fr : Option (List Env)} {gd : Option (List Code)} {s : Shared} {g : Heap} {E : Value → Shared → Prop} {Q : Value → Shared → Prop} {pen c : Addr} {vs : List Value} {ns : List Int} {spot sm many : Int} {t1 t2 tm : Tok} {n : Nat}
    (B : Bs w mg mb g) (S : g.StaysIn s.heap) (hA : dep < 900) (hc : g.IsList c vs.toArray) (hi : IntsAre vs ns) (hlen : ns.length ≤ 63)
    (hp : s.heap.get? pen = some (LO [.ref c, .int spot t1, .int sm t2] n)) (hgp : g.get? pen = none) (h0 : 0 ≤ spot) (h1 : spot ≤ 1000) (hm0 : 1 ≤ many) (hm1 : many ≤ 9)
    (k : ∀ h' tk r tr t1' n', 0 ≤ r → r < many → Keep [pen] s.heap h' → h'.get? pen = some (LO [.ref c, .int (spot + 1) t1', .int sm t2] n') → Q (.int r tr) { s with heap := h', toks := tk }) :
    wpAny (model PG w) (AR dep fr gd un) (call (.ref 316) [.ref pen, .int many tm]) Q E s := by
  refine wpAny_call ?_
  refine' enter (binds := [(Str.ofString "pen", .ref pen), (Str.ofString "many", .int many tm)]) (news := [(pen, LO [.ref c, .int spot t1, .int sm t2] n)]) B S ?hD ?ho ?hcd ?hA ?hbind ?hloc ?h ?hcell ?hco ?hgen ?hk
  case hD => intro p hp'; rw [List.mem_singleton] at hp'; subst hp'; exact ⟨hp, hgp⟩
  walk_at "my entry"
  case h =>
    intro g₁ L h₁ G F' N' l1 X' T'
    have hc' : g₁.IsList c vs.toArray := hc.at fun o e => G.sub _ _ e
    k_steps
    all_goals (refine k _ _ _ _ _ _ ?_ ?_ (G.keep (by assumption)) (News.get (by assumption) (.head _)))
    all_goals (first | exact fmod_lo _ (by omega) | exact fmod_hi _ (by omega))
theorem place_spec {w : World} {mg mb : Str → Option Value} {dep un : Nat} {fr : Option (List Env)} {gd : Option (List Code)} {s : Shared} {E : Value → Shared → Prop} {Q : Value → Shared → Prop} {ll : Addr} {n : Nat} {l tp : Nat → Addr} {ms : Nat → Int} {u : Int} {tu : Tok}
    (B : Bs w mg mb s.heap) (hA : dep < 900) (hL : LettersAt s.heap ll n l tp ms) (hn : n ≤ 100) (h0 : 1 ≤ u) (h1 : u ≤ n)
    (k : ∀ h' tk t, s.heap.StaysIn h' → Q (.int (u - 1) t) { s with heap := h', toks := tk }) :
    wpAny (model PG w) (AR dep fr gd un) (call (.ref 288) [.ref ll, .int u tu]) Q E s := by
  refine wpAny_call ?_
  refine' enter (binds := [(Str.ofString "letters", .ref ll), (Str.ofString "uid", .int u tu)]) (news := []) B (fun _ _ e => e) (fun _ hp => nomatch hp) ?ho ?hcd ?hA ?hbind ?hloc ?h ?hcell ?hco ?hgen ?hk
  walk_at "my entry"
  case h =>
    intro g₁ L h₁ G F' N' l1 X' T'
    have hL' : LettersAt g₁ ll n l tp ms := hL.up G.sub
    (k_with "exec While Compare cons nil" => k_while (fun (_ : List Int) low high => 0 ≤ low ∧ low ≤ u - 1 ∧ u - 1 ≤ high ∧ high ≤ n) (fun _ low high => (high - low).toNat) "low" "high")
    (k_with "state" => (simp only [fd2] at * <;> omega))
    (k_with "measure" => (simp only [fd2] at * <;> omega))
    k_steps
    · show Q (Value.int _ _) _
      refine int_eq (y := u - 1) (by omega) ?_
      exact k _ _ _ (G.stays (by assumption))
    · exfalso; omega
local macro_rules | `(tactic| walk_at "call ref") => `(tactic| (k_here; (with_reducible show wpAny _ _ (call (Value.ref 288) _) _ _ _); k_dflt (refine place_spec (by walk_at "my base") (by walk_at "my room") (by walk_at "my letters") (by omega) (by omega) (by omega) ?_); intro h' tk' t' k'; (have F'' := Fr.keeps (by with_reducible assumption) k'); (try (have N'' := News.grown (by with_reducible assumption) k')); (try k_sweep); (try dsimp only)))
theorem letter_spec {w : World} {mg mb : Str → Option Value} {dep un : Nat} {fr : Option (List Env)} {gd : Option (List Code)} {s : Shared} {E : Value → Shared → Prop} {Q : Value → Shared → Prop} {box bd ll : Addr} {nx top : Int} {n : Nat} {l tp : Nat → Addr} {ms : Nat → Int} {u : Int} {tu : Tok}
    (B : Bs w mg mb s.heap) (hA : dep < 890) (hB : BoxAt s.heap box bd ll nx top) (hL : LettersAt s.heap ll n l tp ms) (hn : n ≤ 100) (h0 : 1 ≤ u) (h1 : u ≤ n)
    (k : ∀ h' tk, s.heap.StaysIn h' → Q (.ref (l (u - 1).toNat)) { s with heap := h', toks := tk }) :
    wpAny (model PG w) (AR dep fr gd un) (call (.ref 264) [.ref box, .int u tu]) Q E s := by
  refine wpAny_call ?_
  refine' enter (binds := [(Str.ofString "self", .ref box), (Str.ofString "uid", .int u tu)]) (news := []) B (fun _ _ e => e) (fun _ hp => nomatch hp) ?ho ?hcd ?hA ?hbind ?hloc ?h ?hcell ?hco ?hgen ?hk
  walk_at "my entry"
  case h =>
    intro g₁ L h₁ G F' N' l1 X' T'
    have hL' : LettersAt g₁ ll n l tp ms := hL.up G.sub
    have hB' : BoxAt g₁ box bd ll nx top := hB.up G.sub
    k_steps
    exact k _ _ (G.stays (by assumption))
theorem range_item {n i : Nat} {f : Nat → Value} {v : Value} (e : (((List.range n).map f).toArray)[i]? = some v) : i < n ∧ v = f i := by
  simp only [List.getElem?_toArray, List.getElem?_map] at e
  cases q : (List.range n)[i]? with
  | none => rw [q] at e; cases e
  | some j =>
    rw [q] at e
    have := List.getElem?_eq_some_iff.mp q
    obtain ⟨hi, hj⟩ := this
    rw [List.length_range] at hi
    rw [List.getElem_range] at hj
    subst hj
    cases e
    exact ⟨hi, rfl⟩
theorem filter_true (n : Nat) : (List.range n).filter (fun _ => true) = List.range n := List.filter_eq_self.mpr fun _ _ => rfl

theorem uids_spec {w : World} {mg mb : Str → Option Value} {dep un : Nat} {fr : Option (List Env)} {gd : Option (List Code)} {s : Shared} {E : Value → Shared → Prop} {Q : Value → Shared → Prop} {box bd ll : Addr} {nx top : Int} {n : Nat} {l tp : Nat → Addr} {ms : Nat → Int}
    (B : Bs w mg mb s.heap) (hA : dep < 890) (hB : BoxAt s.heap box bd ll nx top) (hL : LettersAt s.heap ll n l tp ms) (hn : n ≤ 100)
    (k : ∀ h' tk D n' (T : Nat → Tok), s.heap.StaysIn h' → s.heap.get? D = none → h'.get? D = some (LO ((List.range n).map fun (i : Nat) => .int ((i : Int) + 1) (T i)) n') → Q (.ref D) { s with heap := h', toks := tk }) :
    wpAny (model PG w) (AR dep fr gd un) (call (.ref 269) [.ref box]) Q E s := by
  refine wpAny_call ?_
  refine' enter (binds := [(Str.ofString "self", .ref box)]) (news := []) B (fun _ _ e => e) (fun _ hp => nomatch hp) ?ho ?hcd ?hA ?hbind ?hloc ?h ?hcell ?hco ?hgen ?hk
  walk_at "my entry"
  case h =>
    intro g₁ L h₁ G F' N' l1 X' T'
    have hL' : LettersAt g₁ ll n l tp ms := hL.up G.sub
    have hB' : BoxAt g₁ box bd ll nx top := hB.up G.sub
    k_steps
    have hL₁ := hL'.up F'.keep
    have X₁ := X'.keeps F'.keep
    refine cp_map (l := ll) (items := ((List.range n).map fun i => Value.ref (l i)).toArray) (.inl hL₁.isList) ?_ ?_ ?_ ?_ ?_ (fun i y h => ∃ t, y = .int ((i : Int) + 1) t) (fun _ _ _ _ _ e => e) ?_ ?_
    · rfl
    · simp; omega
    · decide
    · rfl
    · rfl
    · intro C i v h tk m hv F₂ hm
      obtain ⟨hi, rfl⟩ := range_item hv
      k_steps
      exact EltEnd.intro (fun _ _ e => e) ⟨_, rfl⟩
    · intro D h' tk n' Y hs hD hget hY
      have e : ((List.range n).map fun i => Value.ref (l i)).toArray.size = n := by simp
      rw [e] at hget hY
      have hT : ∀ i, ∃ t, i < n → Y i = .int ((i : Int) + 1) t := fun i => by
        by_cases hi : i < n
        · obtain ⟨t, ht⟩ := hY i hi; exact ⟨t, fun _ => ht⟩
        · exact ⟨0, fun z => absurd z hi⟩
      obtain ⟨T, hT⟩ := Classical.axiomOfChoice hT
      refine k h' tk D n' T (fun b o e => hs b o (G.stays F' b o e)) ?_ ?_
      · cases q : s.heap.get? D with
        | none => rfl
        | some o => have := G.stays F' _ _ q; rw [hD] at this; cases this
      · rw [hget]
        rw [List.map_congr_left (fun i hi => hT i (List.mem_range.mp hi))]
section PartFlags
abbrev sSeen : Str := ⟨#[92, 83, 101, 101, 110]⟩
abbrev sAnswered : Str := ⟨#[92, 65, 110, 115, 119, 101, 114, 101, 100]⟩
abbrev sFlagged : Str := ⟨#[92, 70, 108, 97, 103, 103, 101, 100]⟩
abbrev sDeleted : Str := ⟨#[92, 68, 101, 108, 101, 116, 101, 100]⟩
abbrev sDraft : Str := ⟨#[92, 68, 114, 97, 102, 116]⟩
theorem seen_is : sSeen = Str.ofString "\\Seen" := by decide +kernel
theorem sysflags_spec {w : World} {mg mb : Str → Option Value} {dep un : Nat} {fr : Option (List Env)} {gd : Option (List Code)} {s : Shared} {E : Value → Shared → Prop} {Q : Value → Shared → Prop}
    (B : Bs w mg mb s.heap) (hA : dep < 890)
    (k : ∀ h' tk D t1 t2 t3 t4 t5 n', s.heap.StaysIn h' → s.heap.get? D = none → h'.get? D = some (LO [.str sSeen t1, .str sAnswered t2, .str sFlagged t3, .str sDeleted t4, .str sDraft t5] n') → Q (.ref D) { s with heap := h', toks := tk }) :
    wpAny (model PG w) (AR dep fr gd un) (call (.ref 187) []) Q E s := by
  refine wpAny_call ?_
  refine' enter (binds := []) (news := []) B (fun _ _ e => e) (fun _ hp => nomatch hp) ?ho ?hcd ?hA ?hbind ?hloc ?h ?hcell ?hco ?hgen ?hk
  walk_at "my entry"
  case h =>
    intro g₁ L h₁ G F' N' l1 X' T'
    k_steps
    exact k _ _ _ _ _ _ _ _ _ (G.stays (by assumption)) (G.new (by assumption) (.head _)) (News.get (by assumption) (.head _))

local macro_rules | `(tactic| walk_at "pyIter str") => `(tactic| ((with_reducible show wpAny _ _ (pyIter (Value.str _ _)) (fun it s₂ => LoopAtV _ _ _ _ _ _ _ _ _ it s₂) _ _); k_here; k_strUnr))
theorem isKeyword_spec {w : World} {mg mb : Str → Option Value} {dep un : Nat} {fr : Option (List Env)} {gd : Option (List Code)} {s : Shared} {E : Value → Shared → Prop} {Q : Value → Shared → Prop} {tt : Tok}
    (B : Bs w mg mb s.heap) (hA : dep < 890)
    (k : ∀ h' tk, s.heap.StaysIn h' → Q (.bool true) { s with heap := h', toks := tk }) :
    wpAny (model PG w) (AR dep fr gd un) (call (.ref 194) [.str (Str.ofString "x") tt]) Q E s := by
  refine wpAny_call ?_
  refine' enter (binds := [(Str.ofString "text", .str (Str.ofString "x") tt)]) (news := []) B (fun _ _ e => e) (fun _ hp => nomatch hp) ?ho ?hcd ?hA ?hbind ?hloc ?h ?hcell ?hco ?hgen ?hk
  walk_at "my entry"
  case h =>
    intro g₁ L h₁ G F' N' l1 X' T'
    k_steps
    · exact k _ _ (G.stays (by assumption))
    · exfalso
      have e : (Builtin.Str.occurrences (Str.ofString "(){ %*\"\\]") (Str.ofString "x") 0 (Str.ofString "(){ %*\"\\]").length 1).isEmpty = true := by decide +kernel
      first | exact absurd e (by assumption) | exact absurd (e.symm.trans (by assumption : _ = false)) (by decide)

local macro_rules | `(tactic| walk_at "call ref") => `(tactic| (k_here; (with_reducible show wpAny _ _ (call (Value.ref 187) _) _ _ _); k_dflt (refine sysflags_spec (by walk_at "my base") (by walk_at "my room") ?_); intro h' tk' D' t1' t2' t3' t4' t5' n' k' f' g'; (have F'' := Fr.keeps (by with_reducible assumption) k'); (have N'' := newsAdd (by with_reducible assumption) (by with_reducible assumption) k' f' g'); (try k_sweep); (try dsimp only)))
local macro_rules | `(tactic| walk_at "call ref") => `(tactic| (k_here; (with_reducible show wpAny _ _ (call (Value.ref 194) _) _ _ _); k_dflt (refine isKeyword_spec (by walk_at "my base") (by walk_at "my room") ?_); walk_at "my after"))
theorem flagName_x {w : World} {mg mb : Str → Option Value} {dep un : Nat} {fr : Option (List Env)} {gd : Option (List Code)} {s : Shared} {E : Value → Shared → Prop} {Q : Value → Shared → Prop} {tt : Tok}
    (B : Bs w mg mb s.heap) (hA : dep < 880)
    (k : ∀ h' tk t', s.heap.StaysIn h' → Q (.str (Str.ofString "x") t') { s with heap := h', toks := tk }) :
    wpAny (model PG w) (AR dep fr gd un) (call (.ref 201) [.str (Str.ofString "x") tt]) Q E s := by
  refine wpAny_call ?_
  refine' enter (binds := [(Str.ofString "text", .str (Str.ofString "x") tt)]) (news := []) B (fun _ _ e => e) (fun _ hp => nomatch hp) ?ho ?hcd ?hA ?hbind ?hloc ?h ?hcell ?hco ?hgen ?hk
  walk_at "my entry"
  case h =>
    intro g₁ L h₁ G F' N' l1 X' T'
    k_steps
    exact k _ _ _ (G.stays (by assumption))
theorem str_eq {Q : Value → Shared → Prop} {x y : Str} {t : Tok} {s : Shared} (e : x = y) (h : Q (.str y t) s) : Q (.str x t) s := e ▸ h
theorem flagName_s {w : World} {mg mb : Str → Option Value} {dep un : Nat} {fr : Option (List Env)} {gd : Option (List Code)} {s : Shared} {E : Value → Shared → Prop} {Q : Value → Shared → Prop} {tt : Tok}
    (B : Bs w mg mb s.heap) (hA : dep < 880)
    (k : ∀ h' tk t', s.heap.StaysIn h' → Q (.str (Str.ofString "\\Seen") t') { s with heap := h', toks := tk }) :
    wpAny (model PG w) (AR dep fr gd un) (call (.ref 201) [.str (Str.ofString "\\Seen") tt]) Q E s := by
  refine wpAny_call ?_
  refine' enter (binds := [(Str.ofString "text", .str (Str.ofString "\\Seen") tt)]) (news := []) B (fun _ _ e => e) (fun _ hp => nomatch hp) ?ho ?hcd ?hA ?hbind ?hloc ?h ?hcell ?hco ?hgen ?hk
  walk_at "my entry"
  case h =>
    intro g₁ L h₁ G F' N' l1 X' T'
    k_steps
    show Q (Value.str _ _) _
    refine str_eq seen_is ?_
    exact k _ _ _ (G.stays (by assumption))

/-- the flags that the law draws -/
def IsFl (f : List Str) : Prop := f = [Str.ofString "x"] ∨ f = [] ∨ f = [Str.ofString "\\Seen"] ∨ f = [Str.ofString "\\Seen", Str.ofString "x"]
/-- a tuple of such texts -/
def FlAt (h : Heap) (a : Addr) (f : List Str) : Prop := ∃ (T : Nat → Tok) (n : Nat), h.get? a = some { cls := .type "tuple", data := .seq (f.zipIdx.map fun p => Value.str p.1 (T p.2)).toArray n }
theorem FlAt.elim {h : Heap} {a : Addr} {f : List Str} (z : FlAt h a f) {P : Prop} (k : ∀ (T : Nat → Tok) (n : Nat), h.get? a = some { cls := .type "tuple", data := .seq (f.zipIdx.map fun p => Value.str p.1 (T p.2)).toArray n } → P) : P := by
  obtain ⟨T, n, e⟩ := z
  exact k T n e
theorem fl_all {h : Heap} {T : Nat → Tok} : ∀ (f : List Str) (k : Nat), ReadsAll h ((f.zipIdx k).map fun p => Value.str p.1 (T p.2)) (f.map PyData.str) []
  | [], _ => .nil
  | x :: r, k => by
    rw [List.zipIdx_cons, List.map_cons, List.map_cons]
    exact ReadsAll.cons (as := []) (bs := []) (.str _ _) (fl_all r (k + 1))
theorem FlAt.reads {h : Heap} {a : Addr} {f : List Str} : FlAt h a f → Reads h (.ref a) (.tuple (f.map PyData.str)) [] := fun ⟨T, n, e⟩ => .tuple e rfl rfl (by simpa using fl_all f 0)
theorem fl_lay {f : List Str} (hf : IsFl f) : PySem.SeqAt.shaped (PyData.tuple (f.map PyData.str)) = true := by
  rcases hf with rfl | rfl | rfl | rfl <;> decide +kernel
theorem fl_eqv {f f' : List Str} (hf : IsFl f) (hf' : IsFl f') : PyData.eqv (.tuple (f.map PyData.str)) (.tuple (f'.map PyData.str)) = decide (f = f') := by
  rcases hf with rfl | rfl | rfl | rfl <;> rcases hf' with rfl | rfl | rfl | rfl <;> decide +kernel
section
variable {w : World} {A : Around} {E : Value → Shared → Prop} {s : Shared} {a b : Addr} {f f' : List Str} {Q : Value → Shared → Prop}
theorem fl_eq (ha : FlAt s.heap a f) (hb : FlAt s.heap b f') (hf : IsFl f) (hf' : IsFl f') (hu : A.units + 64 < cLine) (h : Q (.bool (decide (f = f'))) s) : wpAny (model PG w) A (compareOp .Eq (.ref a) (.ref b)) Q E s :=
  eq_dataH ha.reads hb.reads (fl_lay hf) (fl_lay hf') hu (by rw [fl_eqv hf hf']; exact h)
theorem fl_ne (ha : FlAt s.heap a f) (hb : FlAt s.heap b f') (hf : IsFl f) (hf' : IsFl f') (hu : A.units + 64 < cLine) (h : Q (.bool (!decide (f = f'))) s) : wpAny (model PG w) A (compareOp .NotEq (.ref a) (.ref b)) Q E s :=
  ne_dataH ha.reads hb.reads (fl_lay hf) (fl_lay hf') hu (by rw [fl_eqv hf hf']; exact h)
end
theorem FlAt.growMk {g s g₁ h' : Heap} {L a : Addr} {f : List Str} {T : Nat → Tok} {n : Nat} {news : List (Addr × Obj)} (N : News g₁ L h' news) (hm : (a, ({ cls := .type "tuple", data := .seq (f.zipIdx.map fun p => Value.str p.1 (T p.2)).toArray n } : Obj)) ∈ news) (fa : s.get? a = none) : FlAt (grow g s h') a f :=
  ⟨T, n, grow_new (N.get hm) fa⟩
theorem FlAt.up {h h' : Heap} {a : Addr} {f : List Str} (k : h.StaysIn h') : FlAt h a f → FlAt h' a f := fun ⟨T, n, e⟩ => ⟨T, n, k _ _ e⟩
local macro_rules | `(tactic| walk_at "call ref") => `(tactic| (k_here; (with_reducible show wpAny _ _ (call (Value.ref 201) [Value.str (PySem.Str.ofString "x") _]) _ _ _); k_dflt (refine flagName_x (by walk_at "my base") (by walk_at "my room") ?_); intro h' tk' t' k'; (have F'' := Fr.keeps (by with_reducible assumption) k'); (try (have N'' := News.grown (by with_reducible assumption) k')); (try k_sweep); (try dsimp only)))
local macro_rules | `(tactic| walk_at "call ref") => `(tactic| (k_here; (with_reducible show wpAny _ _ (call (Value.ref 201) [Value.str (PySem.Str.ofString "\\Seen") _]) _ _ _); k_dflt (refine flagName_s (by walk_at "my base") (by walk_at "my room") ?_); intro h' tk' t' k'; (have F'' := Fr.keeps (by with_reducible assumption) k'); (try (have N'' := News.grown (by with_reducible assumption) k')); (try k_sweep); (try dsimp only)))

theorem sorted_one {w : World} {A : Around} {E : Value → Shared → Prop} {s : Shared} {h₀ : Heap} {L l : Addr} {m : Str → Option Value} {news : List (Addr × Obj)} {Q : Value → Shared → Prop} {y : Str} {t : Tok} {n : Nat}
    (F : Fr h₀ L s.heap m) (N : News h₀ L s.heap news) (hm : (l, PySem.W.listOf #[.str y t] n) ∈ news) (hy : PyData.layable0 (.list [.str y]) = true)
    (h : ∀ h' D t' e, Fr h₀ L h' m → News h₀ L h' ((D, PySem.W.listOf #[.str y t'] e) :: news) → (∀ p ∈ news, p.1 < D) → Q (.ref D) { s with heap := h' }) :
    wpAny (model PG w) A (call (.builtin "sorted") [.ref l]) Q E s := by
  refine sorted_N2_str F N (vs := [.str y t]) (ss := [y]) ⟨_, (N _ hm).1, rfl, _, rfl⟩ (.cons _ _ .nil) hy (by simp) fun h' vs' ss' e F' N' _ hS _ _ _ hp _ => ?_
  obtain rfl : ss' = [y] := List.perm_singleton.mp hp
  cases hS with
  | cons _ t' hr =>
    cases hr
    exact h h' _ t' e F' N' fun p hp => Nat.lt_succ_of_lt (Heap.lt_size (N p hp).1)
theorem sorted_nil {w : World} {A : Around} {E : Value → Shared → Prop} {s : Shared} {h₀ : Heap} {L l : Addr} {m : Str → Option Value} {news : List (Addr × Obj)} {Q : Value → Shared → Prop} {n : Nat}
    (F : Fr h₀ L s.heap m) (N : News h₀ L s.heap news) (hm : (l, PySem.W.listOf #[] n) ∈ news)
    (h : ∀ h' D e, Fr h₀ L h' m → News h₀ L h' ((D, PySem.W.listOf #[] e) :: news) → (∀ p ∈ news, p.1 < D) → Q (.ref D) { s with heap := h' }) :
    wpAny (model PG w) A (call (.builtin "sorted") [.ref l]) Q E s := by
  refine sorted_N2_str F N (vs := []) (ss := []) ⟨_, (N _ hm).1, rfl, _, rfl⟩ .nil (by decide +kernel) (by simp) fun h' vs' ss' e F' N' _ hS _ _ hl _ _ => ?_
  obtain rfl : vs' = [] := List.length_eq_zero_iff.mp hl
  exact h h' _ e F' N' fun p hp => Nat.lt_succ_of_lt (Heap.lt_size (N p hp).1)
local macro_rules | `(tactic| walk_at "call builtin:sorted") => `(tactic| (k_here; k_dflt (refine sorted_nil (by k_asm) (by k_asm) (by k_mem) ?_; intro h' D' e' F' N' l1; (try k_lt l1); (try k_sweep))))
local macro_rules | `(tactic| walk_at "call builtin:sorted") => `(tactic| (k_here; k_dflt (refine sorted_one (by k_asm) (by k_asm) (by k_mem) (by decide +kernel) ?_; intro h' D' t' e' F' N' l1; (try k_lt l1); (try k_sweep))))

theorem flagTuple_spec {w : World} {mg mb : Str → Option Value} {dep un : Nat} {fr : Option (List Env)} {gd : Option (List Code)} {s : Shared} {E : Value → Shared → Prop} {Q : Value → Shared → Prop} {a : Addr} {f : List Str}
    (B : Bs w mg mb s.heap) (hA : dep < 870) (hf : IsFl f) (ha : FlAt s.heap a f)
    (k : ∀ h' tk D, s.heap.StaysIn h' → s.heap.get? D = none → FlAt h' D f → Q (.ref D) { s with heap := h', toks := tk }) :
    wpAny (model PG w) (AR dep fr gd un) (call (.ref 208) [.ref a]) Q E s := by
  refine wpAny_call ?_
  refine' enter (binds := [(Str.ofString "flags", .ref a)]) (news := []) B (fun _ _ e => e) (fun _ hp => nomatch hp) ?ho ?hcd ?hA ?hbind ?hloc ?h ?hcell ?hco ?hgen ?hk
  walk_at "my entry"
  case h =>
    intro g₁ L h₁ G F' N' l1 X' T'
    obtain ⟨T, n, ha⟩ := ha
    have ha' := G.sub _ _ ha
    k_steps
    rename_i l' hA1 lA hA2 FA NA
    have haL := frNe FA ha'
    have haS := FA.keep _ _ ha'
    refine iter_items (items := (f.zipIdx.map fun p => Value.str p.1 (T p.2)).toArray) (fun i m nw => ∃ (u : Str → Option Value) (e : Nat) (T' : Nat → Tok), m = over u (fun y => if y = Str.ofString "found" then some (Value.ref l') else List.lookup y [(Str.ofString "flags", Value.ref a)].reverse) [Str.ofString "name", Str.ofString "text"] ∧ nw = [(l', LO ((f.take i).zipIdx.map fun p => Value.str p.1 (T' p.2)) e)])
      rfl (.inr ⟨_, haS, rfl, _, rfl⟩) haL (.inl ⟨_, ha'⟩) FA NA ⟨_, 0, fun _ => 0, over_eq (fun _ _ => rfl), rfl⟩ ?turn ?done
    case turn =>
      rintro i v m₁ news₁ h tk I io hv ⟨u, e, T', rfl, rfl⟩ ne F₁ N₁
      have nI : @Ne Nat l' I := ne _ (.head _)
      rcases hf with rfl | rfl | rfl | rfl
      · rcases i with _ | i
        · obtain rfl : v = Value.str (Str.ofString "x") (T 0) := (Option.some.inj hv).symm
          have N₂ : News g₁ L h [(I, io), (l', PySem.W.listOf #[] e)] := N₁
          clear N₁
          k_steps
          refine ItEnd.intro (by assumption) (by assumption) (by k_all) ?_
          exact ⟨_, _, fun _ => _, over_eq (fun y hy => by simp only [List.mem_cons, not_or] at hy; simp [over, hy]), rfl⟩
        · simp at hv
      · simp at hv
      · rcases i with _ | i
        · obtain rfl : v = Value.str (Str.ofString "\\Seen") (T 0) := (Option.some.inj hv).symm
          have N₂ : News g₁ L h [(I, io), (l', PySem.W.listOf #[] e)] := N₁
          clear N₁
          k_steps
          refine ItEnd.intro (by assumption) (by assumption) (by k_all) ?_
          exact ⟨_, _, fun _ => _, over_eq (fun y hy => by simp only [List.mem_cons, not_or] at hy; simp [over, hy]), rfl⟩
        · simp at hv
      · rcases i with _ | _ | i
        · obtain rfl : v = Value.str (Str.ofString "\\Seen") (T 0) := (Option.some.inj hv).symm
          have N₂ : News g₁ L h [(I, io), (l', PySem.W.listOf #[] e)] := N₁
          clear N₁
          k_steps
          refine ItEnd.intro (by assumption) (by assumption) (by k_all) ?_
          exact ⟨_, _, fun _ => _, over_eq (fun y hy => by simp only [List.mem_cons, not_or] at hy; simp [over, hy]), rfl⟩
        · obtain rfl : v = Value.str (Str.ofString "x") (T 1) := (Option.some.inj hv).symm
          have N₂ : News g₁ L h [(I, io), (l', PySem.W.listOf #[.str (Str.ofString "\\Seen") (T' 0)] e)] := N₁
          clear N₁
          k_steps
          refine ItEnd.intro (by assumption) (by assumption) (by k_all) ?_
          exact ⟨_, _, fun i => if i = 0 then _ else _, over_eq (fun y hy => by simp only [List.mem_cons, not_or] at hy; simp [over, hy]), rfl⟩
        · simp at hv
    case done =>
      rintro m₁ news₁ h tk ⟨u, e, T', rfl, rfl⟩ F₁ N₁
      rcases hf with rfl | rfl | rfl | rfl
      · have N₂ : News g₁ L h [(l', PySem.W.listOf #[.str (Str.ofString "x") (T' 0)] e)] := N₁
        clear N₁
        k_steps
        exact k _ _ _ (G.stays (by assumption)) (G.new (by assumption) (.head _)) ⟨fun _ => _, _, News.get (by assumption) (.head _)⟩
      · have N₂ : News g₁ L h [(l', PySem.W.listOf #[] e)] := N₁
        clear N₁
        k_steps
        exact k _ _ _ (G.stays (by assumption)) (G.new (by assumption) (.head _)) ⟨fun _ => 0, _, News.get (by assumption) (.head _)⟩
      · have N₂ : News g₁ L h [(l', PySem.W.listOf #[.str (Str.ofString "\\Seen") (T' 0)] e)] := N₁
        clear N₁
        k_steps
        exact k _ _ _ (G.stays (by assumption)) (G.new (by assumption) (.head _)) ⟨fun _ => _, _, News.get (by assumption) (.head _)⟩
      · have N₂ : News g₁ L h [(l', PySem.W.listOf #[.str (Str.ofString "\\Seen") (T' 0), .str (Str.ofString "x") (T' 1)] e)] := N₁
        clear N₁
        k_steps
        exact k _ _ _ (G.stays (by assumption)) (G.new (by assumption) (.head _)) ⟨fun i => if i = 0 then _ else _, _, News.get (by assumption) (.head _)⟩
def FlagsIn (h : Heap) (n : Nat) (tp : Nat → Addr) (fl : Nat → List Str) : Prop := ∀ i, i < n → FlAt h (tp i) (fl i) ∧ IsFl (fl i)
theorem FlagsIn.up {h h' : Heap} {n : Nat} {tp : Nat → Addr} {fl : Nat → List Str} (k : h.StaysIn h') (x : FlagsIn h n tp fl) : FlagsIn h' n tp fl := fun i hi => ⟨(x i hi).1.up k, (x i hi).2⟩
theorem FlagsIn.at {h : Heap} {n : Nat} {tp : Nat → Addr} {fl : Nat → List Str} (x : FlagsIn h n tp fl) {i : Nat} (hi : i < n) : FlAt h (tp i) (fl i) := (x i hi).1
theorem FlagsIn.is {h : Heap} {n : Nat} {tp : Nat → Addr} {fl : Nat → List Str} (x : FlagsIn h n tp fl) {i : Nat} (hi : i < n) : IsFl (fl i) := (x i hi).2
end PartFlags
local macro_rules | `(tactic| walk_at "my units") => `(tactic| (have hcL := cLine_is; (dsimp only [AR, Around.deeper, Around.in1]; omega)))
local macro_rules | `(tactic| walk_at "my fl") => `(tactic| first
  | with_reducible assumption
  | exact FlagsIn.at (FlagsIn.up (Fr.keep (by with_reducible assumption)) (by with_reducible assumption)) (by omega)
  | exact FlAt.up (Fr.keep (by with_reducible assumption)) (by with_reducible assumption)
  | exact ⟨_, _, News.get (by with_reducible assumption) (by k_mem)⟩)
local macro_rules | `(tactic| walk_at "my isfl") => `(tactic| first | with_reducible assumption | exact FlagsIn.is (by with_reducible assumption) (by omega))
local macro_rules | `(tactic| walk_at "compareOp Eq ref ref") => `(tactic| (k_here; k_dflt (refine fl_eq (by walk_at "my fl") (by walk_at "my fl") (by walk_at "my isfl") (by walk_at "my isfl") (by walk_at "my units") ?_)))
local macro_rules | `(tactic| walk_at "compareOp NotEq ref ref") => `(tactic| (k_here; k_dflt (refine fl_ne (by walk_at "my fl") (by walk_at "my fl") (by walk_at "my isfl") (by walk_at "my isfl") (by walk_at "my units") ?_)))
theorem letter_new {w : World} {mg mb : Str → Option Value} {dep un : Nat} {fr : Option (List Env)} {gd : Option (List Code)} {s : Shared} {E : Value → Shared → Prop} {Q : Value → Shared → Prop} {t : Addr} {f : List Str} {u i m : Int} {tu tb ti tm : Tok}
    (B : Bs w mg mb s.heap) (hA : dep < 880) (ht : FlAt s.heap t f)
    (k : ∀ h' tk l, s.heap.StaysIn h' → s.heap.get? l = none → LetterNew s.heap h' l u t m → Q (.ref l) { s with heap := h', toks := tk }) :
    wpAny (model PG w) (AR dep fr gd un) (call (.ref 239) [.int u tu, .bytes #[120] tb, .ref t, .int i ti, .int m tm]) Q E s := by
  have X := B.k
  have hs0 : s.heap.get? s.heap.objs.size = none := by
    cases e : s.heap.get? s.heap.objs.size with
    | none => rfl
    | some o => exact absurd (Heap.lt_size e) (Nat.lt_irrefl _)
  have hs1 : s.heap.get? (s.heap.objs.size + 1) = none := by
    cases e : s.heap.get? (s.heap.objs.size + 1) with
    | none => rfl
    | some o => exact absurd (Heap.lt_size e) (Nat.not_lt.mpr (Nat.le_succ _))
  have hst : s.heap.StaysIn ((s.heap.push emptyDict).push (instObj 239 s.heap.objs.size)) := fun b o e => Heap.get?_push_of_some _ (Heap.get?_push_of_some _ e)
  refine' wpAny_call (make_core (init := .ref 222) (makes_of X ?m1) (looks_findIn X ?m2) (fun self => bind_fn X self ?m3) (.inl rfl) ?m4)
  case m1 => k_is
  case m2 => k_is
  case m3 => k_is
  case m4 =>
    refine' enter (s := { s with heap := (s.heap.push emptyDict).push (instObj 239 s.heap.objs.size) }) (binds := [(Str.ofString "self", .ref (s.heap.objs.size + 1)), (Str.ofString "uid", .int u tu), (Str.ofString "octets", .bytes #[120] tb), (Str.ofString "flags", .ref t), (Str.ofString "instant", .int i ti), (Str.ofString "modseq", .int m tm)]) (news := [(s.heap.objs.size + 1, instObj 239 s.heap.objs.size), (s.heap.objs.size, emptyDict)]) B hst ?hD ?ho ?hcd ?hA ?hbind ?hloc ?h ?hcell ?hco ?hgen ?hk
    case hA => (simp only [depth_under_make]; exact Nat.lt_of_lt_of_le (Nat.succ_lt_succ hA) (by decide))
    walk_at "my entry"
    case hD =>
      intro p hp
      rcases List.mem_cons.mp hp with rfl | hp
      · exact ⟨by have := Heap.get?_push_size (s.heap.push emptyDict) (o := instObj 239 s.heap.objs.size) rfl; rwa [Heap.size_push] at this, hs1⟩
      · rw [List.mem_singleton] at hp
        subst hp
        exact ⟨Heap.get?_push_of_some _ (Heap.get?_push_size _ rfl), hs0⟩
    case h =>
      intro g₁ L h₁ G F' N' l1 X' T'
      obtain ⟨T, n, ht⟩ := ht
      have ht' : IsTup g₁ t _ := ⟨_, G.sub _ _ ht, rfl, _, rfl⟩
      k_lt l1
      have l2 : @LT.lt Nat _ s.heap.objs.size (s.heap.objs.size + 1) := Nat.lt_succ_self _
      generalize hdx : s.heap.objs.size = dx at *
      generalize hx : dx + 1 = x at *
      k_steps
      refine ⟨rfl, ?_⟩
      show Q (.ref x) _
      refine k _ _ x (fun b o e => Fr.keep (by assumption) _ _ (G.all b o (hst b o e) fun p hp q => ?_)) hs1 (LetterNew.mk (d := dx) hs0 (News.get (by assumption) (.head _)) (News.get (by assumption) (.tail _ (.head _))))
      rcases List.mem_cons.mp hp with rfl | hp
      · rw [← q, hs1] at e; cases e
      · rw [List.mem_singleton] at hp
        subst hp
        rw [← q, hs0] at e; cases e

theorem raised_spec {w : World} {mg mb : Str → Option Value} {dep un : Nat} {fr : Option (List Env)} {gd : Option (List Code)} {s : Shared} {g : Heap} {E : Value → Shared → Prop} {Q : Value → Shared → Prop} {box bd ll : Addr} {nx top : Int} {o : Obj}
    (B : Bs w mg mb g) (S : g.StaysIn s.heap) (hA : dep < 880) (hx : g.get? box = some (instObj 277 bd)) (hdo : s.heap.get? bd = some o) (hg : g.get? bd = none) (hb : BoxD ll nx top o) (h0 : 0 ≤ top) (h1 : top ≤ 1000)
    (k : ∀ h' tk t o', Keep [bd] s.heap h' → h'.get? bd = some o' → BoxD ll nx (top + 1) o' → Q (.int (top + 1) t) { s with heap := h', toks := tk }) :
    wpAny (model PG w) (AR dep fr gd un) (call (.ref 295) [.ref box]) Q E s := by
  obtain ⟨H, T, n, nm, vl, t1, t2, fl, gn, rfl⟩ := hb
  refine wpAny_call ?_
  refine' enter (binds := [(Str.ofString "box", .ref box)]) (news := [(bd, dictOf (BEs H T nm vl (.int nx t1) (.int top t2) fl (.ref ll) gn) n)]) B S ?hD ?ho ?hcd ?hA ?hbind ?hloc ?h ?hcell ?hco ?hgen ?hk
  walk_at "my entry"
  case hD => intro p hp; rw [List.mem_singleton] at hp; subst hp; exact ⟨hdo, hg⟩
  case h =>
    intro g₁ L h₁ G F' N' l1 X' T'
    have hx' := G.sub _ _ hx
    k_steps
    exact k _ _ _ _ (G.keep (by assumption)) (News.get (by assumption) (.head _)) ⟨H, T, _, nm, vl, t1, _, fl, gn, rfl⟩
local macro_rules | `(tactic| walk_at "call ref") => `(tactic| (k_here; (with_reducible show wpAny _ _ (call (Value.ref 208) _) _ _ _); k_dflt (refine flagTuple_spec (by walk_at "my base") (by walk_at "my room") (by with_reducible assumption) (FlAt.up (Fr.keep (by with_reducible assumption)) (by with_reducible assumption)) ?_); intro h' tk' D' k' f' g'; (refine FlAt.elim g' ?_); clear g'; intro T' n' g'; (have l' := newsNe (by with_reducible assumption) f'); (have F'' := Fr.keeps (by with_reducible assumption) k'); (have N'' := newsAdd (by with_reducible assumption) (by with_reducible assumption) k' f' g'); (simp only [AllNe, and_true] at l'); (try k_sweep); (try dsimp only)))
local macro_rules | `(tactic| walk_at "call ref") => `(tactic| (k_here; (with_reducible show wpAny _ _ (call (Value.ref 295) _) _ _ _); k_dflt (refine raised_spec ⟨by with_reducible assumption, by with_reducible assumption⟩ (Fr.keep (by with_reducible assumption)) (by walk_at "my room") (by with_reducible assumption) (News.get (by with_reducible assumption) (by k_mem)) (News.fresh (by with_reducible assumption) (by k_mem)) ⟨_, _, _, _, _, _, _, _, _, rfl⟩ (by omega) (by omega) ?_); intro h' tk' t' o' k' e' b'; (refine BoxD.elim2 b' e' ?_); clear b' e'; intro H' T' n' nm' vl' t1' t2' fl' gn' e'; (refine and2 (newsUpd (by with_reducible assumption) (by with_reducible assumption) k' (by k_upd) e') ?_); intro F'' N''; (try k_sweep); (try dsimp only)))
local macro_rules | `(tactic| walk_at "call ref") => `(tactic| (k_here; (with_reducible show wpAny _ _ (call (Value.ref 239) _) _ _ _); k_dflt (refine letter_new (by walk_at "my base") (by walk_at "my room") ⟨_, _, News.get (by with_reducible assumption) (by k_mem)⟩ ?_); intro h' tk' l' k' f' e'; (refine LetterNew.elim e' ?_); clear e'; intro d' H' T' n' tu' tb' ti' i' tm' fd' e1' e2'; (have q1' := newsNe (by with_reducible assumption) f'); (have q2' := newsNe (by with_reducible assumption) fd'); (have q3' : @Ne Nat l' d' := fun q => by rw [q, e2'] at e1'; cases e1'); (have F'' := Fr.keeps (by with_reducible assumption) k'); (have N'' := newsAdd2 (by with_reducible assumption) (by with_reducible assumption) k' f' e1' fd' e2'); (simp only [AllNe, and_true] at q1' q2'); (try k_sweep); (try dsimp only)))
theorem addLetter_spec {w : World} {mg mb : Str → Option Value} {dep un : Nat} {fr : Option (List Env)} {gd : Option (List Code)} {s : Shared} {g : Heap} {E : Value → Shared → Prop} {Q : Value → Shared → Prop} {box bd ll : Addr} {nx top : Int} {o : Obj} {its : Array Value} {e : Nat} {t : Addr} {f : List Str} {tb ti : Tok} {i : Int}
    (B : Bs w mg mb g) (S : g.StaysIn s.heap) (hA : dep < 860) (hx : g.get? box = some (instObj 277 bd)) (hdo : s.heap.get? bd = some o) (hg : g.get? bd = none) (hb : BoxD ll nx top o)
    (hlo : s.heap.get? ll = some (PySem.W.listOf its e)) (hgl : g.get? ll = none) (hne : @Ne Nat bd ll) (hsz : its.size ≤ 100) (hf : IsFl f) (ht : FlAt g t f) (n0 : 0 ≤ nx) (n1 : nx ≤ 1000) (h0 : 0 ≤ top) (h1 : top ≤ 1000)
    (k : ∀ h' tk l D o' e', Keep [bd, ll] s.heap h' → h'.get? bd = some o' → BoxD ll (nx + 1) (top + 1) o' → h'.get? ll = some (PySem.W.listOf (its.push (.ref l)) e') → LetterAt (grow g s.heap h') l nx D (top + 1) → FlAt (grow g s.heap h') D f → s.heap.get? l = none → Q (.ref l) { s with heap := h', toks := tk }) :
    wpAny (model PG w) (AR dep fr gd un) (call (.ref 302) [.ref box, .bytes #[120] tb, .ref t, .int i ti]) Q E s := by
  obtain ⟨H, T, n, nm, vl, t1, t2, fl, gn, rfl⟩ := hb
  refine wpAny_call ?_
  refine' enter (binds := [(Str.ofString "box", .ref box), (Str.ofString "octets", .bytes #[120] tb), (Str.ofString "flags", .ref t), (Str.ofString "instant", .int i ti)]) (news := [(bd, dictOf (BEs H T nm vl (.int nx t1) (.int top t2) fl (.ref ll) gn) n), (ll, PySem.W.listOf its e)]) B S ?hD ?ho ?hcd ?hA ?hbind ?hloc ?h ?hcell ?hco ?hgen ?hk
  walk_at "my entry"
  case hD =>
    intro p hp
    rcases List.mem_cons.mp hp with rfl | hp
    · exact ⟨hdo, hg⟩
    · rw [List.mem_singleton] at hp; subst hp; exact ⟨hlo, hgl⟩
  case h =>
    intro g₁ L h₁ G F' N' l1 X' T'
    have hx' := G.sub _ _ hx
    have ht' := ht.up G.sub
    k_steps
    show Q (Value.ref _) _
    refine k _ _ _ _ _ _ (G.keep (by assumption)) (News.get (by assumption) (by k_mem)) ⟨_, _, _, _, _, _, _, _, _, rfl⟩ (News.get (by assumption) (by k_mem)) (LetterAt.growMk (by assumption) (by k_mem) (by k_mem) (G.fresh (by k_all) (News.fresh (by assumption) (by k_mem))) (G.fresh (by k_all) (News.fresh (by assumption) (by k_mem)))) (FlAt.growMk (by assumption) (by k_mem) (G.fresh (by k_all) (News.fresh (by assumption) (by k_mem)))) (G.fresh (by k_all) (News.fresh (by assumption) (by k_mem)))
local macro_rules | `(tactic| walk_at "setItem ref int") => `(tactic| (k_here; k_dflt (refine' list_set ?F ?N ?U ?a ?b ?c ?_; (case F => k_asm); (case N => k_asm); (case U => k_upd); (case a => omega); (case b => (simp only [List.length_map, List.length_range]; omega)); (case c => omega); k_whole); intro h' F' N'; (try k_sweep)))
theorem setFlags_spec {w : World} {mg mb : Str → Option Value} {dep un : Nat} {fr : Option (List Env)} {gd : Option (List Code)} {s : Shared} {g : Heap} {E : Value → Shared → Prop} {Q : Value → Shared → Prop} {box bd ll : Addr} {nx top : Int} {o : Obj} {n e : Nat} {l tp : Nat → Addr} {ms : Nat → Int} {fl : Nat → List Str} {t : Addr} {f : List Str} {u : Int} {tu : Tok}
    (B : Bs w mg mb g) (S : g.StaysIn s.heap) (hA : dep < 860) (hU : un < 5000) (hx : g.get? box = some (instObj 277 bd)) (hdo : s.heap.get? bd = some o) (hg : g.get? bd = none) (hb : BoxD ll nx top o)
    (hlo : s.heap.get? ll = some (LO ((List.range n).map fun i => .ref (l i)) e)) (hgl : g.get? ll = none) (hne : @Ne Nat bd ll) (hL : LettersIn g n l tp ms) (hF : FlagsIn g n tp fl) (hf : IsFl f) (ht : FlAt g t f) (hn : n ≤ 100) (u0 : 1 ≤ u) (u1 : u ≤ n) (h0 : 0 ≤ top) (h1 : top ≤ 1000)
    (k1 : fl (u - 1).toNat = f → ∀ h' tk, s.heap.StaysIn h' → Q (.bool false) { s with heap := h', toks := tk })
    (k2 : fl (u - 1).toNat ≠ f → ∀ h' tk l' D o' e', Keep [bd, ll] s.heap h' → h'.get? bd = some o' → BoxD ll nx (top + 1) o' → h'.get? ll = some (LO ((List.range n).map fun i => .ref (if i = (u - 1).toNat then l' else l i)) e') → LetterAt (grow g s.heap h') l' u D (top + 1) → FlAt (grow g s.heap h') D f → Q (.bool true) { s with heap := h', toks := tk }) :
    wpAny (model PG w) (AR dep fr gd un) (call (.ref 309) [.ref box, .int u tu, .ref t]) Q E s := by
  obtain ⟨H, T, nn, nm, vl, t1, t2, fll, gn, rfl⟩ := hb
  have hD : ∀ p ∈ [(bd, dictOf (BEs H T nm vl (.int nx t1) (.int top t2) fll (.ref ll) gn) nn), (ll, LO ((List.range n).map fun i => .ref (l i)) e)], s.heap.get? p.1 = some p.2 ∧ g.get? p.1 = none := by
    intro p hp
    rcases List.mem_cons.mp hp with rfl | hp
    · exact ⟨hdo, hg⟩
    · rw [List.mem_singleton] at hp; subst hp; exact ⟨hlo, hgl⟩
  refine wpAny_call ?_
  refine' enter (binds := [(Str.ofString "box", .ref box), (Str.ofString "uid", .int u tu), (Str.ofString "flags", .ref t)]) (news := [(bd, dictOf (BEs H T nm vl (.int nx t1) (.int top t2) fll (.ref ll) gn) nn), (ll, LO ((List.range n).map fun i => .ref (l i)) e)]) B S ?hD ?ho ?hcd ?hA ?hbind ?hloc ?h ?hcell ?hco ?hgen ?hk
  walk_at "my entry"
  case hD => exact hD
  case h =>
    intro g₁ L h₁ G F' N' l1 X' T'
    have hx' := G.sub _ _ hx
    have ht' := ht.up G.sub
    have hL' := hL.up G.sub
    have hF' := hF.up G.sub
    k_steps
    · exact k1 (by assumption) _ _ (G.staysN (fun p hp => (hD p hp).1) (by assumption) (by assumption) (by first | exact fun _ hp => hp | exact fun _ hp => .tail _ hp))
    · show Q (Value.bool true) _
      refine k2 (by assumption) _ _ _ _ _ e (G.keep (by assumption)) (News.get (by assumption) (by k_mem)) ⟨_, _, _, _, _, _, _, _, _, rfl⟩ ?_ (LetterAt.growMk (by assumption) (by k_mem) (by k_mem) (G.fresh (by k_all) (News.fresh (by assumption) (by k_mem))) (G.fresh (by k_all) (News.fresh (by assumption) (by k_mem)))) (FlAt.growMk (by assumption) (by k_mem) (G.fresh (by k_all) (News.fresh (by assumption) (by k_mem))))
      rw [← range_set]
      exact News.get (by assumption) (by k_mem)
/-! dicts of the keys 1 .. n -/
def kv (n : Nat) (f : Nat → Value) : List (Int × Value) := (List.range n).map fun (i : Nat) => ((i : Int) + 1, f i)
theorem kv_length {n : Nat} {f : Nat → Value} : (kv n f).length = n := by simp [kv]
theorem kv_find {f : Nat → Value} : ∀ {n i : Nat}, i < n → (kv n f).find? (fun p => p.1 = ((i : Int) + 1)) = some ((i : Int) + 1, f i)
  | 0, i, h => absurd h (Nat.not_lt_zero _)
  | n + 1, i, h => by
    unfold kv
    rw [List.range_succ, List.map_append, List.find?_append]
    by_cases q : i < n
    · have := kv_find (f := f) q
      unfold kv at this
      rw [this]; rfl
    · have e : i = n := by omega
      subst e
      have : List.find? (fun p => decide (p.1 = ((i : Int) + 1))) ((List.range i).map fun (j : Nat) => ((j : Int) + 1, f j)) = none := by
        rw [List.find?_eq_none]
        intro p hp
        obtain ⟨j, hj, rfl⟩ := List.mem_map.mp hp
        have := List.mem_range.mp hj
        simp; omega
      rw [this]; simp
theorem kv_at {n : Nat} {f : Nat → Value} {k : Int} (h0 : 1 ≤ k) (h1 : k ≤ n) : valueAt (kv n f) k = some (f (k - 1).toNat) := by
  have e : k = (((k - 1).toNat : Nat) : Int) + 1 := by omega
  unfold valueAt
  have := kv_find (f := f) (n := n) (i := (k - 1).toNat) (by omega)
  rw [← e] at this
  rw [this]; rfl
theorem kv_set {n : Nat} {f : Nat → Value} {k : Int} {v : Value} (h0 : 1 ≤ k) (h1 : k ≤ n) : stored (kv n f) k v = kv n fun j => if j = (k - 1).toNat then v else f j := by
  unfold stored
  have hm : (kv n f).any (fun p => decide (p.1 = k)) = true := List.any_eq_true.mpr ⟨(k, f (k - 1).toNat), List.mem_map.mpr ⟨(k - 1).toNat, List.mem_range.mpr (by omega), by rw [show (((k - 1).toNat : Nat) : Int) + 1 = k by omega]⟩, by simp⟩
  rw [if_pos hm]
  unfold kv
  rw [List.map_map]
  refine List.map_congr_left fun i hi => ?_
  simp only [Function.comp_apply]
  by_cases q : i = (k - 1).toNat
  · rw [if_pos q, if_pos (by omega)]
  · rw [if_neg q, if_neg (by omega)]
theorem kv_add {n : Nat} {f : Nat → Value} {k : Int} {v : Value} (h : k = (n : Int) + 1) : stored (kv n f) k v = kv (n + 1) fun j => if j = n then v else f j := by
  subst h
  unfold stored
  have hm : (kv n f).any (fun p => decide (p.1 = (n : Int) + 1)) = false := by
    rw [List.any_eq_false]
    intro p hp
    obtain ⟨j, hj, rfl⟩ := List.mem_map.mp hp
    have := List.mem_range.mp hj
    simp; omega
  rw [hm]
  simp only [Bool.false_eq_true, if_false]
  unfold kv
  rw [List.range_succ, List.map_append]
  simp only [List.map_cons, List.map_nil, if_true]
  congr 1
  refine List.map_congr_left fun i hi => ?_
  have := List.mem_range.mp hi
  rw [if_neg (by omega)]

/-- an int dict as an object -/
abbrev DictO (w : World) (n : Nat) (f : Nat → Value) (o : Obj) : Prop := o.IsDictOf (intKind PG w) (kv n f)
structure DictI (w : World) (h : Heap) (a : Addr) (n : Nat) (f : Nat → Value) : Prop where
  at_ : h.DictOf (intKind PG w) a (kv n f)
  lo : (a == sysModules) = false
theorem DictI.up {w : World} {h h' : Heap} {a : Addr} {n : Nat} {f : Nat → Value} (k : h.StaysIn h') (x : DictI w h a n f) : DictI w h' a n f := by
  obtain ⟨o, e, d⟩ := Heap.dictOf_iff.mp x.at_
  exact ⟨Heap.dictOf_iff.mpr ⟨o, k _ _ e, d⟩, x.lo⟩
theorem DictI.of {w : World} {h : Heap} {a : Addr} {n : Nat} {f : Nat → Value} {o : Obj} (e : h.get? a = some o) (d : DictO w n f o) (lo : (a == sysModules) = false) : DictI w h a n f := ⟨Heap.dictOf_iff.mpr ⟨o, e, d⟩, lo⟩
section
variable {w : World} {A : Around} {E : Value → Shared → Prop} {s : Shared} {h₀ : Heap} {L d : Addr} {m : Str → Option Value} {news : List (Addr × Obj)} {gg : Obj → List (Addr × Obj)} {o : Obj} {n : Nat} {f : Nat → Value} {k : Int} {t : Tok} {v : Value}
theorem dict_item {value slice : Expr} {Q : Value → Shared → Prop} (hD : DictI w s.heap d n f) (h0 : 1 ≤ k) (h1 : k ≤ n) (h : Q (f (k - 1).toNat) { s with toks := s.toks + 1 })
    (hs : subscripted slice false (.ref d) (.int k t) = operate [.ref d, .int k t] (getItem (.ref d) (.int k t)) := by with_unfolding_all rfl) (hg : ∀ r, letTemporaryGo value (.ref d) r = pure () := by intro _; with_unfolding_all rfl) :
    wpAny (model PG w) A (subscriptTail value slice (.ref d) (.int k t)) Q E s :=
  subscriptTail_builtin hD.at_.mapOf.typeIs slot_dict_getitem.lookup (wpAny_getItem_of (intKind_is PG w k t) hD.at_.mapOf (kv_at h0 h1) h) hs hg
theorem dict_getItem {Q : Value → Shared → Prop} (hD : DictI w s.heap d n f) (h0 : 1 ≤ k) (h1 : k ≤ n) (h : Q (f (k - 1).toNat) { s with toks := s.toks + 1 }) : wpAny (model PG w) A (getItem (.ref d) (.int k t)) Q E s :=
  wpAny_getItem_of (intKind_is PG w k t) hD.at_.mapOf (kv_at h0 h1) h
theorem dict_in {Q : Value → Shared → Prop} (hD : DictI w s.heap d n f) (h0 : 1 ≤ k) (h1 : k ≤ n) (h : Q (.bool true) { s with toks := s.toks + 1 }) : wpAny (model PG w) A (compareOp .In (.int k t) (.ref d)) Q E s :=
  wpAny_in_of (intKind_is PG w k t) hD.lo hD.at_.mapOf (by rw [kv_at h0 h1]; exact h)
theorem dict_set {Q : Unit → Shared → Prop} (F : Fr h₀ L s.heap m) (N : News h₀ L s.heap news) (U : UpdF d o news gg) (hd' : DictO w n f o) (h0 : 1 ≤ k) (h1 : k ≤ n) (hn : n ≤ 100)
    (h : ∀ h' o', Fr h₀ L h' m → News h₀ L h' (gg o') → DictO w n (fun j => if j = (k - 1).toNat then v else f j) o' → Q () { s with heap := h', toks := s.toks + 1 }) : wpAny (model PG w) A (setItem (.ref d) (.int k t) v) Q E s :=
  kda_set F N U hd' (intKind_is PG w k t) (by rw [kv_length, sizeLine_eq]; omega) fun h' o' F' N' D' => h h' o' F' N' (by rw [kv_set h0 h1] at D'; exact D')
theorem dict_add {Q : Unit → Shared → Prop} (F : Fr h₀ L s.heap m) (N : News h₀ L s.heap news) (U : UpdF d o news gg) (hd' : DictO w n f o) (h0 : k = (n : Int) + 1) (hn : n ≤ 100)
    (h : ∀ h' o', Fr h₀ L h' m → News h₀ L h' (gg o') → DictO w (n + 1) (fun j => if j = n then v else f j) o' → Q () { s with heap := h', toks := s.toks + 1 }) : wpAny (model PG w) A (setItem (.ref d) (.int k t) v) Q E s :=
  kda_set F N U hd' (intKind_is PG w k t) (by rw [kv_length, sizeLine_eq]; omega) fun h' o' F' N' D' => h h' o' F' N' (by rw [kv_add h0] at D'; exact D')
end

/-! the view -/
abbrev VEs (H : Nat → Int) (T : Nat → Tok) (bx ro um uv ul fd md : Value) : List DictEntry :=
  [⟨H 0, .str (Str.ofString "box") (T 0), bx⟩, ⟨H 1, .str (Str.ofString "is_readonly") (T 1), ro⟩, ⟨H 2, .str (Str.ofString "uses_modseq") (T 2), um⟩, ⟨H 3, .str (Str.ofString "uses_vanished") (T 3), uv⟩, ⟨H 4, .str (Str.ofString "uids") (T 4), ul⟩, ⟨H 5, .str (Str.ofString "flags") (T 5), fd⟩, ⟨H 6, .str (Str.ofString "modseqs") (T 6), md⟩]
def ViewAt (h : Heap) (v box ul fd md : Addr) (uses : Bool) : Prop :=
  ∃ d H T n ro, InstAt h v (instObj 98 d) 98 (some (dictOf (VEs H T (.ref box) ro (.bool uses) (.bool false) (.ref ul) (.ref fd) (.ref md)) n))
theorem ViewAt.up {h h' : Heap} {v box ul fd md : Addr} {uses : Bool} (k : h.StaysIn h') : ViewAt h v box ul fd md uses → ViewAt h' v box ul fd md uses := by
  rintro ⟨d, H, T, n, ro, I⟩
  exact ⟨d, H, T, n, ro, instUp rfl k I⟩
section
variable {w : World} {A : Around} {E : Value → Shared → Prop} {s : Shared} {h₀ : Heap} {L v box ul fd md : Addr} {m : Str → Option Value} {Q : Value → Shared → Prop} {uses : Bool} {ex : Bool}
theorem view_box (X : (heapK w.params).In h₀) (F : Fr h₀ L s.heap m) (hV : ViewAt s.heap v box ul fd md uses) (h : Q (.ref box) { s with toks := s.toks + 1 }) : wpAny (model PG w) A (getAttr (.ref v) (Str.ofString "box") ex) Q E s := by
  obtain ⟨d, H, T, n, ro, I⟩ := hV
  refine' get_own F X I ?a ?b ?c ?d ?e ?f h
  case a => k_is
  case b => k_is
  case c => k_is
  case d => k_is
  case e => k_get
  case f => k_handed
theorem view_uids (X : (heapK w.params).In h₀) (F : Fr h₀ L s.heap m) (hV : ViewAt s.heap v box ul fd md uses) (h : Q (.ref ul) { s with toks := s.toks + 1 }) : wpAny (model PG w) A (getAttr (.ref v) (Str.ofString "uids") ex) Q E s := by
  obtain ⟨d, H, T, n, ro, I⟩ := hV
  refine' get_own F X I ?a ?b ?c ?d ?e ?f h
  case a => k_is
  case b => k_is
  case c => k_is
  case d => k_is
  case e => k_get
  case f => k_handed
theorem view_flags (X : (heapK w.params).In h₀) (F : Fr h₀ L s.heap m) (hV : ViewAt s.heap v box ul fd md uses) (h : Q (.ref fd) { s with toks := s.toks + 1 }) : wpAny (model PG w) A (getAttr (.ref v) (Str.ofString "flags") ex) Q E s := by
  obtain ⟨d, H, T, n, ro, I⟩ := hV
  refine' get_own F X I ?a ?b ?c ?d ?e ?f h
  case a => k_is
  case b => k_is
  case c => k_is
  case d => k_is
  case e => k_get
  case f => k_handed
theorem view_modseqs (X : (heapK w.params).In h₀) (F : Fr h₀ L s.heap m) (hV : ViewAt s.heap v box ul fd md uses) (h : Q (.ref md) { s with toks := s.toks + 1 }) : wpAny (model PG w) A (getAttr (.ref v) (Str.ofString "modseqs") ex) Q E s := by
  obtain ⟨d, H, T, n, ro, I⟩ := hV
  refine' get_own F X I ?a ?b ?c ?d ?e ?f h
  case a => k_is
  case b => k_is
  case c => k_is
  case d => k_is
  case e => k_get
  case f => k_handed
theorem view_uses (X : (heapK w.params).In h₀) (F : Fr h₀ L s.heap m) (hV : ViewAt s.heap v box ul fd md uses) (h : Q (.bool uses) { s with toks := s.toks + 1 }) : wpAny (model PG w) A (getAttr (.ref v) (Str.ofString "uses_modseq") ex) Q E s := by
  obtain ⟨d, H, T, n, ro, I⟩ := hV
  refine' get_own F X I ?a ?b ?c ?d ?e ?f h
  case a => k_is
  case b => k_is
  case c => k_is
  case d => k_is
  case e => k_get
  case f => k_handed
theorem view_vanished (X : (heapK w.params).In h₀) (F : Fr h₀ L s.heap m) (hV : ViewAt s.heap v box ul fd md uses) (h : Q (.bool false) { s with toks := s.toks + 1 }) : wpAny (model PG w) A (getAttr (.ref v) (Str.ofString "uses_vanished") ex) Q E s := by
  obtain ⟨d, H, T, n, ro, I⟩ := hV
  refine' get_own F X I ?a ?b ?c ?d ?e ?f h
  case a => k_is
  case b => k_is
  case c => k_is
  case d => k_is
  case e => k_get
  case f => k_handed
theorem view_meth_told {pl : Sem Bool} {Q : Value × List Value → Shared → Prop} (X : (heapK w.params).In h₀) (F : Fr h₀ L s.heap m) (hV : ViewAt s.heap v box ul fd md uses) (h : Q (.ref 95, [.ref v]) s) : wpAny (model PG w) A (getMethod (.ref v) (Str.ofString "told") pl) Q E s := by
  obtain ⟨d, H, T, n, ro, I⟩ := hV
  refine' method_inst F X I ?a ?b ?c ?d h
  case a => k_is
  case b => k_is
  case c => k_is
  case d => k_get
end
local macro_rules | `(tactic| walk_at "my view") => `(tactic| exact ViewAt.up (Fr.keep (by with_reducible assumption)) (by with_reducible assumption))
local macro_rules | `(tactic| walk_at "my dict") => `(tactic| first | exact DictI.up (Fr.keep (by with_reducible assumption)) (by with_reducible assumption) | exact DictI.of (News.get (by with_reducible assumption) (by k_mem)) (by with_reducible assumption) (by with_reducible assumption))
local macro_rules | `(tactic| walk_at "getAttr ref") => `(tactic| (k_here; k_dflt (first
  | ((with_reducible show wpAny _ _ (getAttr (Value.ref _) (PySem.Str.ofString "box") _) _ _ _); refine view_box (by with_reducible assumption) (by with_reducible assumption) (by walk_at "my view") ?_)
  | ((with_reducible show wpAny _ _ (getAttr (Value.ref _) (PySem.Str.ofString "uids") _) _ _ _); refine view_uids (by with_reducible assumption) (by with_reducible assumption) (by walk_at "my view") ?_)
  | ((with_reducible show wpAny _ _ (getAttr (Value.ref _) (PySem.Str.ofString "flags") _) _ _ _); refine view_flags (by with_reducible assumption) (by with_reducible assumption) (by walk_at "my view") ?_)
  | ((with_reducible show wpAny _ _ (getAttr (Value.ref _) (PySem.Str.ofString "modseqs") _) _ _ _); refine view_modseqs (by with_reducible assumption) (by with_reducible assumption) (by walk_at "my view") ?_)
  | ((with_reducible show wpAny _ _ (getAttr (Value.ref _) (PySem.Str.ofString "uses_modseq") _) _ _ _); refine view_uses (by with_reducible assumption) (by with_reducible assumption) (by walk_at "my view") ?_)
  | ((with_reducible show wpAny _ _ (getAttr (Value.ref _) (PySem.Str.ofString "uses_vanished") _) _ _ _); refine view_vanished (by with_reducible assumption) (by with_reducible assumption) (by walk_at "my view") ?_))))
local macro_rules | `(tactic| walk_at "setItem ref int") => `(tactic| (k_here; k_dflt (refine' dict_set ?F ?N ?U ?d ?a ?b ?c ?_; (case F => k_asm); (case N => k_asm); (case U => k_updF); (case d => with_reducible assumption); (case a => omega); (case b => omega); (case c => omega); k_whole); intro h' o' F' N' d'; (try dsimp only at N'); (try k_sweep)))
local macro_rules | `(tactic| walk_at "subscriptTail") => `(tactic| (k_here; (with_reducible show wpAny _ _ (subscriptTail _ _ (Value.ref _) (Value.int _ _)) _ _ _); k_dflt (refine dict_item (by walk_at "my dict") (by omega) (by omega) ?_)))
local macro_rules | `(tactic| walk_at "compareOp In int ref") => `(tactic| (k_here; k_dflt (refine dict_in (by walk_at "my dict") (by omega) (by omega) ?_)))
theorem note_spec {w : World} {mg mb : Str → Option Value} {dep un : Nat} {fr : Option (List Env)} {gd : Option (List Code)} {s : Shared} {g : Heap} {E : Value → Shared → Prop} {Q : Value → Shared → Prop} {view box ul fd md lt tp : Addr} {uses : Bool} {of om : Obj} {n : Nat} {vf vm : Nat → Value} {u ms : Int}
    (B : Bs w mg mb g) (S : g.StaysIn s.heap) (hA : dep < 870) (hV : ViewAt g view box ul fd md uses) (hL : LetterAt g lt u tp ms) (hof : s.heap.get? fd = some of) (gf : g.get? fd = none) (df : DictO w n vf of) (hom : s.heap.get? md = some om) (gm : g.get? md = none) (dm : DictO w n vm om) (hne : @Ne Nat fd md) (hn : n ≤ 100) (u0 : 1 ≤ u) (u1 : u ≤ n)
    (k : ∀ h' tk of' om' t, Keep [fd, md] s.heap h' → h'.get? fd = some of' → DictO w n (fun j => if j = (u - 1).toNat then .ref tp else vf j) of' → h'.get? md = some om' → DictO w n (fun j => if j = (u - 1).toNat then .int ms t else vm j) om' → Q .none { s with heap := h', toks := tk }) :
    wpAny (model PG w) (AR dep fr gd un) (call (.ref 109) [.ref view, .ref lt]) Q E s := by
  have hD : ∀ p ∈ [(fd, of), (md, om)], s.heap.get? p.1 = some p.2 ∧ g.get? p.1 = none := by
    intro p hp
    rcases List.mem_cons.mp hp with rfl | hp
    · exact ⟨hof, gf⟩
    · rw [List.mem_singleton] at hp; subst hp; exact ⟨hom, gm⟩
  refine wpAny_call ?_
  refine' enter (binds := [(Str.ofString "view", .ref view), (Str.ofString "letter", .ref lt)]) (news := [(fd, of), (md, om)]) B S hD ?ho ?hcd ?hA ?hbind ?hloc ?h ?hcell ?hco ?hgen ?hk
  walk_at "my entry"
  case h =>
    intro g₁ L h₁ G F' N' l1 X' T'
    have hV' := hV.up G.sub
    have hL' := hL.up G.sub
    k_steps
    refine k _ _ _ _ _ (G.keep (by assumption)) ?_ (by with_reducible assumption) ?_ (by with_reducible assumption)
    · exact News.get (by assumption) (by k_mem)
    · exact News.get (by assumption) (by k_mem)
local macro_rules | `(tactic| walk_at "call ref") => `(tactic| (k_here; (with_reducible show wpAny _ _ (call (Value.ref 264) _) _ _ _); k_dflt (refine letter_spec (by walk_at "my base") (by walk_at "my room") (by walk_at "my box") (by walk_at "my letters") (by omega) (by omega) (by omega) ?_); intro h' tk' k'; (have F'' := Fr.keeps (by with_reducible assumption) k'); (try (have N'' := News.grown (by with_reducible assumption) k')); (try k_sweep); (try dsimp only)))
local macro_rules | `(tactic| walk_at "call ref") => `(tactic| (k_here; (with_reducible show wpAny _ _ (call (Value.ref 109) _) _ _ _); k_dflt (refine note_spec ⟨by with_reducible assumption, by with_reducible assumption⟩ (Fr.keep (by with_reducible assumption)) (by walk_at "my room") (by with_reducible assumption) (by walk_at "my letter") (News.get (by with_reducible assumption) (by k_mem)) (News.fresh (by with_reducible assumption) (by k_mem)) (by with_reducible assumption) (News.get (by with_reducible assumption) (by k_mem)) (News.fresh (by with_reducible assumption) (by k_mem)) (by with_reducible assumption) (by omega) (by omega) (by omega) (by omega) ?_); intro h' tk' of' om' t' k' e1' d1' e2' d2'; (refine and2 (newsUpd2 (by with_reducible assumption) (by with_reducible assumption) k' (by k_upd) (by k_upd) e1' e2' (by k_ne)) ?_); intro F'' N''; (try k_sweep); (try dsimp only)))
theorem keepSilent_spec {w : World} {mg mb : Str → Option Value} {dep un : Nat} {fr : Option (List Env)} {gd : Option (List Code)} {s : Shared} {g : Heap} {E : Value → Shared → Prop} {Q : Value → Shared → Prop} {view box bd ll ul fd md : Addr} {nx top : Int} {l tp : Nat → Addr} {ms : Nat → Int} {uses : Bool} {of om : Obj} {n : Nat} {vf vm : Nat → Value} {u : Int} {tu : Tok}
    (B : Bs w mg mb g) (S : g.StaysIn s.heap) (hA : dep < 860) (hV : ViewAt g view box ul fd md uses) (hB : BoxAt g box bd ll nx top) (hL : LettersAt g ll n l tp ms) (hof : s.heap.get? fd = some of) (gf : g.get? fd = none) (df : DictO w n vf of) (lf : (fd == sysModules) = false) (hom : s.heap.get? md = some om) (gm : g.get? md = none) (dm : DictO w n vm om) (hne : @Ne Nat fd md) (hn : n ≤ 100) (u0 : 1 ≤ u) (u1 : u ≤ n)
    (k : ∀ h' tk of' om' t, Keep [fd, md] s.heap h' → h'.get? fd = some of' → DictO w n (fun j => if j = (u - 1).toNat then .ref (tp (u - 1).toNat) else vf j) of' → h'.get? md = some om' → DictO w n (fun j => if j = (u - 1).toNat then .int (ms (u - 1).toNat) t else vm j) om' → Q .none { s with heap := h', toks := tk }) :
    wpAny (model PG w) (AR dep fr gd un) (call (.ref 116) [.ref view, .int u tu]) Q E s := by
  have hD : ∀ p ∈ [(fd, of), (md, om)], s.heap.get? p.1 = some p.2 ∧ g.get? p.1 = none := by
    intro p hp
    rcases List.mem_cons.mp hp with rfl | hp
    · exact ⟨hof, gf⟩
    · rw [List.mem_singleton] at hp; subst hp; exact ⟨hom, gm⟩
  refine wpAny_call ?_
  refine' enter (binds := [(Str.ofString "view", .ref view), (Str.ofString "uid", .int u tu)]) (news := [(fd, of), (md, om)]) B S hD ?ho ?hcd ?hA ?hbind ?hloc ?h ?hcell ?hco ?hgen ?hk
  walk_at "my entry"
  case h =>
    intro g₁ L h₁ G F' N' l1 X' T'
    have hV' := hV.up G.sub
    have hB' := hB.up G.sub
    have hL' := hL.up G.sub
    k_steps
    have e : (((u - 1).toNat : Nat) : Int) + 1 - 1 = ((u - 1).toNat : Int) := by omega
    simp only [e, Int.toNat_natCast] at *
    refine k _ _ _ _ _ (G.keep (by assumption)) ?_ (by with_reducible assumption) ?_ (by with_reducible assumption)
    · exact News.get (by assumption) (by k_mem)
    · exact News.get (by assumption) (by k_mem)
theorem isStale_spec {w : World} {mg mb : Str → Option Value} {dep un : Nat} {fr : Option (List Env)} {gd : Option (List Code)} {s : Shared} {E : Value → Shared → Prop} {Q : Value → Shared → Prop} {view box ul fd md lt tp : Addr} {uses : Bool} {n : Nat} {va : Nat → Addr} {vfl : Nat → List Str} {vm : Nat → Int} {vt : Nat → Tok} {u ms : Int} {f : List Str}
    (B : Bs w mg mb s.heap) (hA : dep < 870) (hU : un < 5000) (hV : ViewAt s.heap view box ul fd md uses) (hL : LetterAt s.heap lt u tp ms) (hf : IsFl f) (ht : FlAt s.heap tp f) (df : DictI w s.heap fd n fun i => .ref (va i)) (dm : DictI w s.heap md n fun i => .int (vm i) (vt i)) (hF : FlagsIn s.heap n va vfl) (hn : n ≤ 100) (u0 : 1 ≤ u) (u1 : u ≤ n)
    (k : ∀ h' tk, s.heap.StaysIn h' → Q (.bool (!decide (vfl (u - 1).toNat = f) || (uses && !decide (vm (u - 1).toNat = ms)))) { s with heap := h', toks := tk }) :
    wpAny (model PG w) (AR dep fr gd un) (call (.ref 123) [.ref view, .ref lt]) Q E s := by
  refine wpAny_call ?_
  refine' enter (binds := [(Str.ofString "view", .ref view), (Str.ofString "letter", .ref lt)]) (news := []) B (fun _ _ e => e) (fun _ hp => nomatch hp) ?ho ?hcd ?hA ?hbind ?hloc ?h ?hcell ?hco ?hgen ?hk
  walk_at "my entry"
  case h =>
    intro g₁ L h₁ G F' N' l1 X' T'
    have hV' := hV.up G.sub
    have hL' := hL.up G.sub
    have ht' := ht.up G.sub
    have df' := df.up G.sub
    have dm' := dm.up G.sub
    have hF' := hF.up G.sub
    k_steps
    all_goals
      show Q (Value.bool _) _
      refine bool_eq ?_ (k _ _ (G.stays (by assumption)))
      clear k
      first | (simp_all; done) | (simp_all <;> rfl)
/-! atoms -/
abbrev AEs (h : Int) (t : Tok) (v : Value) : List DictEntry := [⟨h, .str (Str.ofString "text") t, v⟩]
def AtomAt (h : Heap) (a : Addr) (x : Str) : Prop := ∃ d k t n tx, h.get? a = some (instObj 45 d) ∧ h.get? d = some (dictOf (AEs k t (.str x tx)) n)
theorem AtomAt.up {h h' : Heap} {a : Addr} {x : Str} (k : h.StaysIn h') : AtomAt h a x → AtomAt h' a x := fun ⟨d, c, t, n, tx, e1, e2⟩ => ⟨d, c, t, n, tx, k _ _ e1, k _ _ e2⟩
/-- an atom whose objects are new since h₀ -/
def AtomNew (h₀ h : Heap) (a : Addr) (x : Str) : Prop := ∃ d k t n tx, h₀.get? a = none ∧ h₀.get? d = none ∧ h.get? a = some (instObj 45 d) ∧ h.get? d = some (dictOf (AEs k t (.str x tx)) n)
theorem AtomNew.up {h₀ h h' : Heap} {a : Addr} {x : Str} (k : h.StaysIn h') : AtomNew h₀ h a x → AtomNew h₀ h' a x := fun ⟨d, c, t, n, tx, f1, f2, e1, e2⟩ => ⟨d, c, t, n, tx, f1, f2, k _ _ e1, k _ _ e2⟩
theorem AtomNew.grow {H h h' : Heap} {a : Addr} {x : Str} (k : H.StaysIn h) : AtomNew h h' a x → AtomNew H (grow H h h') a x := by
  have no : ∀ b, h.get? b = none → H.get? b = none := fun b e => by
    cases q : H.get? b with
    | none => rfl
    | some o => rw [k _ _ q] at e; cases e
  rintro ⟨d, c, t, n, tx, f1, f2, e1, e2⟩
  exact ⟨d, c, t, n, tx, no _ f1, no _ f2, grow_new e1 f1, grow_new e2 f2⟩
abbrev frHeap {h₀ h : Heap} {L : Addr} {m : Str → Option Value} (_ : Fr h₀ L h m) : Heap := h
theorem atom_text {w : World} {A : Around} {E : Value → Shared → Prop} {s : Shared} {h₀ : Heap} {L a : Addr} {m : Str → Option Value} {Q : Value → Shared → Prop} {x : Str} {ex : Bool} (X : (heapK w.params).In h₀) (F : Fr h₀ L s.heap m) (hA : AtomAt s.heap a x) (h : ∀ t, Q (.str x t) { s with toks := s.toks + 1 }) : wpAny (model PG w) A (getAttr (.ref a) (Str.ofString "text") ex) Q E s := by
  obtain ⟨d, k, t, n, tx, e1, e2⟩ := hA
  refine' get_own F X ⟨e1, rfl, rfl, e2⟩ ?a ?b ?c ?d ?e ?f (h tx)
  case a => k_is
  case b => k_is
  case c => k_is
  case d => k_is
  case e => k_get
  case f => k_handed
theorem atom_new {w : World} {mg mb : Str → Option Value} {dep un : Nat} {fr : Option (List Env)} {gd : Option (List Code)} {s : Shared} {E : Value → Shared → Prop} {Q : Value → Shared → Prop} {x : Str} {tx : Tok}
    (B : Bs w mg mb s.heap) (hA : dep < 880)
    (k : ∀ h' tk a, s.heap.StaysIn h' → AtomNew s.heap h' a x → Q (.ref a) { s with heap := h', toks := tk }) :
    wpAny (model PG w) (AR dep fr gd un) (call (.ref 45) [.str x tx]) Q E s := by
  have X := B.k
  have hs0 : s.heap.get? s.heap.objs.size = none := by
    cases e : s.heap.get? s.heap.objs.size with
    | none => rfl
    | some o => exact absurd (Heap.lt_size e) (Nat.lt_irrefl _)
  have hs1 : s.heap.get? (s.heap.objs.size + 1) = none := by
    cases e : s.heap.get? (s.heap.objs.size + 1) with
    | none => rfl
    | some o => exact absurd (Heap.lt_size e) (Nat.not_lt.mpr (Nat.le_succ _))
  have hst : s.heap.StaysIn ((s.heap.push emptyDict).push (instObj 45 s.heap.objs.size)) := fun b o e => Heap.get?_push_of_some _ (Heap.get?_push_of_some _ e)
  refine' wpAny_call (make_core (init := .ref 35) (makes_of X ?m1) (looks_findIn X ?m2) (fun self => bind_fn X self ?m3) (.inl rfl) ?m4)
  case m1 => k_is
  case m2 => k_is
  case m3 => k_is
  case m4 =>
    refine' enter (s := { s with heap := (s.heap.push emptyDict).push (instObj 45 s.heap.objs.size) }) (binds := [(Str.ofString "self", .ref (s.heap.objs.size + 1)), (Str.ofString "text", .str x tx)]) (news := [(s.heap.objs.size + 1, instObj 45 s.heap.objs.size), (s.heap.objs.size, emptyDict)]) B hst ?hD ?ho ?hcd ?hA ?hbind ?hloc ?h ?hcell ?hco ?hgen ?hk
    case hA => (simp only [depth_under_make]; exact Nat.lt_of_lt_of_le (Nat.succ_lt_succ hA) (by decide))
    walk_at "my entry"
    case hD =>
      intro p hp
      rcases List.mem_cons.mp hp with rfl | hp
      · exact ⟨by have := Heap.get?_push_size (s.heap.push emptyDict) (o := instObj 45 s.heap.objs.size) rfl; rwa [Heap.size_push] at this, hs1⟩
      · rw [List.mem_singleton] at hp
        subst hp
        exact ⟨Heap.get?_push_of_some _ (Heap.get?_push_size _ rfl), hs0⟩
    case h =>
      intro g₁ L h₁ G F' N' l1 X' T'
      k_lt l1
      have l2 : @LT.lt Nat _ s.heap.objs.size (s.heap.objs.size + 1) := Nat.lt_succ_self _
      generalize hdx : s.heap.objs.size = dx at *
      generalize hx : dx + 1 = y at *
      k_steps
      refine ⟨rfl, ?_⟩
      show Q (.ref y) _
      refine k _ _ y (fun b o e => Fr.keep (by assumption) _ _ (G.all b o (hst b o e) fun p hp q => ?_)) ⟨dx, _, _, _, _, hs1, hs0, News.get (by assumption) (.head _), News.get (by assumption) (.tail _ (.head _))⟩
      rcases List.mem_cons.mp hp with rfl | hp
      · rw [← q, hs1] at e; cases e
      · rw [List.mem_singleton] at hp
        subst hp
        rw [← q, hs0] at e; cases e
local macro_rules | `(tactic| walk_at "call ref") => `(tactic| (k_here; (with_reducible show wpAny _ _ (call (Value.ref 45) _) _ _ _); k_dflt (refine atom_new (by walk_at "my base") (by walk_at "my room") ?_); intro h' tk' a' k' e'; revert e'; (have F'' := Fr.keeps (by with_reducible assumption) k'); (try k_sweep); (try dsimp only); intro e'))
/-! a ledger's tail: what stands and is not written out -/
structure Im (h₀ G : Heap) (TL : List (Addr × Obj)) : Prop where
  sub : h₀.StaysIn G
  mem : ∀ p ∈ TL, G.get? p.1 = some p.2
  has : ∀ a o, G.get? a = some o → h₀.get? a = some o ∨ (a, o) ∈ TL
theorem Im.all {h₀ G : Heap} {TL : List (Addr × Obj)} {d : Addr} (I : Im h₀ G TL) (hd : G.get? d = none) : ∀ p ∈ TL, p.1 ≠ d := fun p hp q => by
  have := I.mem p hp
  rw [q, hd] at this; cases this
theorem Im.stays {h₀ G h : Heap} {L : Addr} {m : Str → Option Value} {TL news : List (Addr × Obj)} (I : Im h₀ G TL) (F : Fr h₀ L h m) (N : News h₀ L h news) (sub : ∀ p ∈ TL, p ∈ news) : G.StaysIn h := fun a o e => by
  rcases I.has a o e with q | q
  · exact F.keep a o q
  · exact N.get (sub _ q)
theorem Im.nil {h₀ : Heap} : Im h₀ h₀ [] := ⟨fun _ _ e => e, (fun _ h => nomatch h), fun _ _ e => .inl e⟩
theorem fr_noL {h₀ h : Heap} {L : Addr} {m : Str → Option Value} (F : Fr h₀ L h m) : h₀.get? L = none := by
  cases e : h₀.get? L with
  | none => rfl
  | some o => exact absurd (Heap.lt_size e) (Nat.not_lt.mpr F.above)
theorem none_sub {g h : Heap} {a : Addr} (k : g.StaysIn h) (e : h.get? a = none) : g.get? a = none := by
  cases q : g.get? a with
  | none => rfl
  | some o => rw [k _ _ q] at e; cases e
theorem Im.make {h₀ h : Heap} {L : Addr} {m : Str → Option Value} {S : List (Addr × Obj)} (F : Fr h₀ L h m) (N : News h₀ L h S) :
    ∃ G TL, Im h₀ G TL ∧ News h₀ L h (S ++ TL) ∧ (∀ p ∈ S, G.get? p.1 = none) ∧ G.get? L = none ∧ ∀ H : Heap, H.StaysIn h → (∀ p ∈ S, H.get? p.1 = none) → H.get? L = none → H.StaysIn G := by
  let pr : Addr → Bool := fun a => decide (a ≠ L) && S.all fun p => decide (p.1 ≠ a)
  have prL : pr L = false := by simp [pr]
  have prS : ∀ p ∈ S, pr p.1 = false := fun p hp => by
    have : (S.all fun q => decide (q.1 ≠ p.1)) = false := List.all_eq_false.mpr ⟨p, hp, by simp⟩
    simp only [pr, this, Bool.and_false]
  have hG : ∀ H : Heap, H.StaysIn h → (∀ p ∈ S, H.get? p.1 = none) → H.get? L = none → H.StaysIn (only h pr) := fun H k n1 n2 a o e => by
    refine only_of (k _ _ e) ?_
    simp only [pr, Bool.and_eq_true, decide_eq_true_eq, List.all_eq_true]
    refine ⟨fun q => ?_, fun p hp q => ?_⟩
    · rw [q, n2] at e; cases e
    · rw [← q, n1 p hp] at e; cases e
  have k0 : h₀.StaysIn (only h pr) := hG h₀ F.keep (fun p hp => (N p hp).2.2) (fr_noL F)
  have sub : (only h pr).StaysIn h := only_sub
  have gL : (only h pr).get? L = none := by rw [only_get, prL]; rfl
  refine ⟨only h pr, (List.range h.objs.size).filterMap fun (a : Nat) => if (h₀.get? a).isSome then none else ((only h pr).get? a).map fun o => ((a : Addr), o), ⟨k0, ?_, ?_⟩, ?_, ?_, gL, hG⟩
  · intro p hp
    obtain ⟨a, _, e⟩ := List.mem_filterMap.mp hp
    split at e
    · cases e
    · obtain ⟨o, e1, rfl⟩ := Option.map_eq_some_iff.mp e
      exact e1
  · intro a o e
    by_cases q : (h₀.get? a).isSome
    · left
      obtain ⟨o', e'⟩ := Option.isSome_iff_exists.mp q
      have := k0 _ _ e'
      rw [e] at this
      rw [e', this]
    · right
      refine List.mem_filterMap.mpr ⟨a, List.mem_range.mpr (Heap.lt_size (sub _ _ e)), ?_⟩
      rw [if_neg q, e]; rfl
  · intro p hp
    rcases List.mem_append.mp hp with hp | hp
    · exact N p hp
    · obtain ⟨a, _, e⟩ := List.mem_filterMap.mp hp
      split at e
      · cases e
      · rename_i q
        obtain ⟨o, e1, rfl⟩ := Option.map_eq_some_iff.mp e
        refine ⟨sub _ _ e1, fun z => ?_, by simpa using q⟩
        have z' : a = L := z
        rw [z', gL] at e1; cases e1
  · intro p hp
    rw [only_get, prS p hp]; rfl
theorem grow_none {g h h' : Heap} {a : Addr} {o : Obj} (n : g.get? a = none) (e : h.get? a = some o) : (grow g h h').get? a = none := by
  unfold grow
  rw [only_get, if_neg]
  rw [n, e]; simp
theorem AllLt.ne {d : Addr} {l : List (Addr × Obj)} (h : AllLt d l) : ∀ p ∈ l, p.1 ≠ d := by
  induction l with
  | nil => exact fun _ h => nomatch h
  | cons q r ih =>
    intro p hp
    rcases List.mem_cons.mp hp with rfl | hp
    · exact Nat.ne_of_lt h.1
    · exact ih h.2 p hp
local macro_rules | `(tactic| k_all) => `(tactic| first | exact Im.all (by with_reducible assumption) (by with_reducible assumption) | exact AllLt.ne (by walk_at "my and") | (with_reducible assumption) | exact List.forall_mem_nil _ | (refine' fa_cons ?a ?b; (case a => k_ne); (case b => k_all)))
local macro_rules | `(tactic| walk_at "my sub") => `(tactic| first | exact List.forall_mem_nil _ | (intro _ hp; (repeat (first | with_reducible exact hp | with_reducible apply List.mem_cons_of_mem))))
/-- the list of a letter's pairs -/
def AtomsAt (h : Heap) (a : Addr) (f : List Str) : Prop := ∃ (A : Nat → Addr) (e : Nat), h.get? a = some (LO ((List.range f.length).map fun i => .ref (A i)) e) ∧ ∀ i x, f[i]? = some x → AtomAt h (A i) x
def TupAt (h : Heap) (a : Addr) (vs : List Value) : Prop := ∃ n, h.get? a = some { cls := .type "tuple", data := .seq vs.toArray n }
def LstAt (h : Heap) (a : Addr) (vs : List Value) : Prop := ∃ n, h.get? a = some (LO vs n)
def PairsAt (h : Heap) (a : Addr) (f : List Str) (u ms : Int) (uses : Bool) : Prop :=
  if uses = true then ∃ p1 p2 p3 al ml t1 t2 t3 tu tm, LstAt h a [.ref p1, .ref p2, .ref p3] ∧ TupAt h p1 [.str (Str.ofString "UID") t1, .int u tu] ∧ TupAt h p2 [.str (Str.ofString "FLAGS") t2, .ref al] ∧ AtomsAt h al f ∧ TupAt h p3 [.str (Str.ofString "MODSEQ") t3, .ref ml] ∧ LstAt h ml [.int ms tm]
  else ∃ p2 al t2, LstAt h a [.ref p2] ∧ TupAt h p2 [.str (Str.ofString "FLAGS") t2, .ref al] ∧ AtomsAt h al f
theorem AtomsAt.up {h h' : Heap} {a : Addr} {f : List Str} (k : h.StaysIn h') : AtomsAt h a f → AtomsAt h' a f := fun ⟨A, e, e1, e2⟩ => ⟨A, e, k _ _ e1, fun i x q => (e2 i x q).up k⟩
theorem TupAt.up {h h' : Heap} {a : Addr} {vs : List Value} (k : h.StaysIn h') : TupAt h a vs → TupAt h' a vs := fun ⟨n, e⟩ => ⟨n, k _ _ e⟩
theorem LstAt.up {h h' : Heap} {a : Addr} {vs : List Value} (k : h.StaysIn h') : LstAt h a vs → LstAt h' a vs := fun ⟨n, e⟩ => ⟨n, k _ _ e⟩
theorem PairsAt.up {h h' : Heap} {a : Addr} {f : List Str} {u ms : Int} {uses : Bool} (k : h.StaysIn h') : PairsAt h a f u ms uses → PairsAt h' a f u ms uses := by
  unfold PairsAt
  split
  · rintro ⟨p1, p2, p3, al, ml, t1, t2, t3, tu, tm, e1, e2, e3, e4, e5, e6⟩
    exact ⟨p1, p2, p3, al, ml, t1, t2, t3, tu, tm, e1.up k, e2.up k, e3.up k, e4.up k, e5.up k, e6.up k⟩
  · rintro ⟨p2, al, t2, e1, e2, e3⟩
    exact ⟨p2, al, t2, e1.up k, e2.up k, e3.up k⟩
theorem PairsAt.yes {h : Heap} {a p1 p2 p3 al ml : Addr} {f : List Str} {u ms : Int} {t1 t2 t3 tu tm : Tok} (h1 : LstAt h a [.ref p1, .ref p2, .ref p3]) (h2 : TupAt h p1 [.str (Str.ofString "UID") t1, .int u tu]) (h3 : TupAt h p2 [.str (Str.ofString "FLAGS") t2, .ref al]) (h4 : AtomsAt h al f) (h5 : TupAt h p3 [.str (Str.ofString "MODSEQ") t3, .ref ml]) (h6 : LstAt h ml [.int ms tm]) :
    PairsAt h a f u ms true := by unfold PairsAt; rw [if_pos rfl]; exact ⟨_, _, _, _, _, _, _, _, _, _, h1, h2, h3, h4, h5, h6⟩
theorem PairsAt.no {h : Heap} {a p2 al : Addr} {f : List Str} {u ms : Int} {t2 : Tok} (h1 : LstAt h a [.ref p2]) (h3 : TupAt h p2 [.str (Str.ofString "FLAGS") t2, .ref al]) (h4 : AtomsAt h al f) : PairsAt h a f u ms false := by
  unfold PairsAt; rw [if_neg (by decide)]; exact ⟨_, _, _, h1, h3, h4⟩
theorem LstAt.growMk {g s g₁ h' : Heap} {L a : Addr} {vs : List Value} {n : Nat} {news : List (Addr × Obj)} (N : News g₁ L h' news) (hm : (a, LO vs n) ∈ news) (fa : s.get? a = none) : LstAt (grow g s h') a vs := ⟨n, grow_new (N.get hm) fa⟩
theorem TupAt.growMk {g s g₁ h' : Heap} {L a : Addr} {vs : List Value} {n : Nat} {news : List (Addr × Obj)} (N : News g₁ L h' news) (hm : (a, ({ cls := .type "tuple", data := .seq vs.toArray n } : Obj)) ∈ news) (fa : s.get? a = none) : TupAt (grow g s h') a vs := ⟨n, grow_new (N.get hm) fa⟩
theorem AtomAt.growMk {g s g₁ h' : Heap} {L a d : Addr} {x : Str} {k : Int} {t tx : Tok} {n : Nat} {news : List (Addr × Obj)} (N : News g₁ L h' news) (hm : (a, instObj 45 d) ∈ news) (hd' : (d, dictOf (AEs k t (.str x tx)) n) ∈ news) (fa : s.get? a = none) (fd : s.get? d = none) : AtomAt (grow g s h') a x :=
  ⟨d, k, t, n, tx, grow_new (N.get hm) fa, grow_new (N.get hd') fd⟩
theorem AtomsAt.zero {g s g₁ h' : Heap} {L a : Addr} {n : Nat} {news : List (Addr × Obj)} (N : News g₁ L h' news) (hm : (a, LO [] n) ∈ news) (fa : s.get? a = none) : AtomsAt (grow g s h') a [] :=
  ⟨fun _ => 0, n, grow_new (N.get hm) fa, fun i x q => by simp at q⟩
theorem AtomsAt.one {g s g₁ h' : Heap} {L a a0 : Addr} {x : Str} {n : Nat} {news : List (Addr × Obj)} (N : News g₁ L h' news) (hm : (a, LO [.ref a0] n) ∈ news) (fa : s.get? a = none) (z : AtomAt (grow g s h') a0 x) : AtomsAt (grow g s h') a [x] :=
  ⟨fun _ => a0, n, grow_new (N.get hm) fa, fun i y q => by
    rcases i with _ | i
    · cases q; exact z
    · simp at q⟩
theorem AtomsAt.two {g s g₁ h' : Heap} {L a a0 a1 : Addr} {x y : Str} {n : Nat} {news : List (Addr × Obj)} (N : News g₁ L h' news) (hm : (a, LO [.ref a0, .ref a1] n) ∈ news) (fa : s.get? a = none) (z : AtomAt (grow g s h') a0 x) (z' : AtomAt (grow g s h') a1 y) : AtomsAt (grow g s h') a [x, y] :=
  ⟨fun i => if i = 0 then a0 else a1, n, grow_new (N.get hm) fa, fun i v q => by
    rcases i with _ | _ | i
    · cases q; exact z
    · cases q; exact z'
    · simp at q⟩
theorem isFl_short {f : List Str} (hf : IsFl f) : f = [] ∨ (∃ x, f = [x]) ∨ ∃ x y, f = [x, y] := by
  rcases hf with rfl | rfl | rfl | rfl
  · exact .inr (.inl ⟨_, rfl⟩)
  · exact .inl rfl
  · exact .inr (.inl ⟨_, rfl⟩)
  · exact .inr (.inr ⟨_, _, rfl⟩)
theorem zip_item {f : List Str} {T : Nat → Tok} {i : Nat} {v : Value} (e : ((f.zipIdx.map fun p => Value.str p.1 (T p.2)).toArray)[i]? = some v) : ∃ x, f[i]? = some x ∧ v = .str x (T i) := by
  simp only [List.getElem?_toArray, List.getElem?_map, List.getElem?_zipIdx] at e
  cases q : f[i]? with
  | none => rw [q] at e; cases e
  | some x =>
    rw [q] at e
    simp at e
    exact ⟨x, rfl, e.symm⟩

theorem AtomsAt.growNew {g s g₁ h' : Heap} {L al : Addr} {f : List Str} {AA : Nat → Addr} {ys : List Value} {n : Nat} {news : List (Addr × Obj)} (N : News g₁ L h' news) (hm : (al, LO ys n) ∈ news) (hys : ys = (List.range f.length).map fun i => Value.ref (AA i)) (fa : s.get? al = none) (z : ∀ i x, f[i]? = some x → AtomNew s h' (AA i) x) : AtomsAt (grow g s h') al f := by
  subst hys
  exact ⟨AA, n, grow_new (N.get hm) fa, fun i x q => by
    obtain ⟨d, c, t, n, tx, f1, f2, e1, e2⟩ := z i x q
    exact ⟨d, c, t, n, tx, grow_new e1 f1, grow_new e2 f2⟩⟩
theorem atoms_keep {s g₁ hc h' G' : Heap} {L al a : Addr} {m : Str → Option Value} {ys : List Value} {n' : Nat} {x : Str} (k0 : s.StaysIn hc) (F : Fr g₁ L hc m) (e : h'.get? al = some (LO ys n')) (up : ∀ H : Heap, H.StaysIn h' → (∀ p ∈ [(al, LO ys n')], H.get? p.1 = none) → H.get? L = none → H.StaysIn G') (z : AtomNew hc h' a x) : AtomNew s G' a x := by
  obtain ⟨d, c, t, n, tx, f1, f2, e1, e2⟩ := z
  have oL : ∃ o, hc.get? L = some o := let ⟨o, _, _, z, _⟩ := F.ns; ⟨o, z⟩
  obtain ⟨o, hL⟩ := oL
  have aL : a ≠ L := fun q => by rw [q, hL] at f1; cases f1
  have dL : d ≠ L := fun q => by rw [q, hL] at f2; cases f2
  have aA : a ≠ al := fun q => by
    rw [q, e] at e1
    have := congrArg Obj.cls (Option.some.inj e1)
    cases this
  have dA : d ≠ al := fun q => by
    rw [q, e] at e2
    have := congrArg Obj.cls (Option.some.inj e2)
    injection this with this
    exact absurd this (by decide)
  have k := up (only h' fun b => decide (b ≠ al) && decide (b ≠ L)) only_sub (fun p hp => by
    rw [List.mem_singleton] at hp
    subst hp
    rw [only_get, if_neg (by simp)]) (by rw [only_get, if_neg (by simp)])
  exact ⟨d, c, t, n, tx, none_sub k0 f1, none_sub k0 f2, k _ _ (only_of e1 (by simp [aA, aL])), k _ _ (only_of e2 (by simp [dA, dL]))⟩
theorem flagPairs_spec {w : World} {mg mb : Str → Option Value} {dep un : Nat} {fr : Option (List Env)} {gd : Option (List Code)} {s : Shared} {E : Value → Shared → Prop} {Q : Value → Shared → Prop} {view box ul fd md lt tp : Addr} {uses : Bool} {u ms : Int} {f : List Str}
    (B : Bs w mg mb s.heap) (hA : dep < 860) (hV : ViewAt s.heap view box ul fd md uses) (hL : LetterAt s.heap lt u tp ms) (hf : IsFl f) (ht : FlAt s.heap tp f)
    (k : ∀ h' tk a, s.heap.StaysIn h' → s.heap.get? a = none → (∀ g₀, PairsAt (grow g₀ s.heap h') a f u ms uses) → Q (.ref a) { s with heap := h', toks := tk }) :
    wpAny (model PG w) (AR dep fr gd un) (call (.ref 128) [.ref view, .ref lt]) Q E s := by
  refine wpAny_call ?_
  refine' enter (binds := [(Str.ofString "view", .ref view), (Str.ofString "letter", .ref lt)]) (news := []) B (fun _ _ e => e) (fun _ hp => nomatch hp) ?ho ?hcd ?hA ?hbind ?hloc ?h ?hcell ?hco ?hgen ?hk
  walk_at "my entry"
  case h =>
    intro g₁ L h₁ G F' N' l1 X' T'
    have hV' := hV.up G.sub
    have hL' := hL.up G.sub
    obtain ⟨T, nt, ht⟩ := ht
    have ht' := G.sub _ _ ht
    k_steps
    rename Fr _ _ _ _ => Fc
    rename News _ _ _ _ => Nc
    have X₁ := X'.keeps Fc.keep
    have T₁ := T'.keeps Fc.keep
    refine cp_map (l := tp) (items := (f.zipIdx.map fun p => Value.str p.1 (T p.2)).toArray) (.inr ⟨_, Fc.keep _ _ ht', rfl, _, rfl⟩) ?_ ?_ ?_ ?_ ?_ (fun i y h => ∃ a, y = .ref a ∧ ∀ x, f[i]? = some x → AtomNew (frHeap Fc) h a x) (fun i y h h' kk ⟨a, e, z⟩ => ⟨a, e, fun x q => (z x q).up kk⟩) ?_ ?_
    · rfl
    · rcases isFl_short hf with rfl | ⟨x, rfl⟩ | ⟨x, y, rfl⟩ <;> simp
    · decide
    · rfl
    · rfl
    · intro C i v h tk m hv F₂ hm
      obtain ⟨x, hx, rfl⟩ := zip_item hv
      have kk := F₂.keep
      k_steps
      refine EltEnd.intro (by assumption) ⟨_, rfl, fun z q => ?_⟩
      obtain rfl : x = z := Option.some.inj (hx.symm.trans q)
      exact AtomNew.grow kk (by assumption)
    · intro al h' tk n' Y hs hal hget hY
      clear X₁ T₁
      have F₁ := Fr.keeps Fc hs
      have hsz : (f.zipIdx.map fun p => Value.str p.1 (T p.2)).toArray.size = f.length := by simp
      have hch : ∀ i, ∃ a : Addr, i < f.length → Y i = .ref a ∧ ∀ x, f[i]? = some x → AtomNew (frHeap Fc) h' a x := fun i => by
        by_cases q : i < f.length
        · obtain ⟨a, z⟩ := hY i (by rw [hsz]; exact q)
          exact ⟨a, fun _ => z⟩
        · exact ⟨0, fun z => absurd z q⟩
      obtain ⟨AA, hAA⟩ := Classical.axiomOfChoice hch
      obtain ⟨ys, hys⟩ : ∃ ys, ys = (List.range f.length).map fun i => Value.ref (AA i) := ⟨_, rfl⟩
      have hget' : h'.get? al = some (LO ys n') := by
        rw [hget, hsz, hys]
        rw [List.map_congr_left fun i hi => (hAA i (List.mem_range.mp hi)).1]
      have N₁ : News g₁ L h' [(al, LO ys n')] := newsMany Fc Nc hs [(al, LO ys n')] (by intro p hp; rw [List.mem_singleton] at hp; subst hp; exact ⟨hal, hget'⟩)
      refine ex2k5 (Im.make F₁ N₁) ?_
      intro G' TL I' N₂ nS zL up
      have hat : ∀ i x, f[i]? = some x → AtomNew s.heap G' (AA i) x := fun i x q => atoms_keep (G.stays Fc) Fc hget' up ((hAA i (List.getElem?_eq_some_iff.mp q).1).2 x q)
      have nA : G'.get? al = none := nS _ (.head _)
      clear hsz hch hAA hY hget hget' N₁ up zL nS hal Fc Nc hs
      simp only [List.cons_append, List.nil_append] at N₂
      cases uses
      · k_steps
        exact k _ _ _ (G.stays (by assumption)) (G.new (by assumption) (by k_mem)) fun g₀ => PairsAt.no (LstAt.growMk (by assumption) (by k_mem) (G.new (by assumption) (by k_mem))) (TupAt.growMk (by assumption) (by k_mem) (G.new (by assumption) (by k_mem))) (AtomsAt.growNew (by assumption) (by k_mem) hys (G.new (by assumption) (by k_mem)) fun i x q => (hat i x q).up (Im.stays I' (by assumption) (by assumption) (by walk_at "my sub")))
      · k_steps
        exact k _ _ _ (G.stays (by assumption)) (G.new (by assumption) (by k_mem)) fun g₀ => PairsAt.yes (LstAt.growMk (by assumption) (by k_mem) (G.new (by assumption) (by k_mem))) (TupAt.growMk (by assumption) (by k_mem) (G.new (by assumption) (by k_mem))) (TupAt.growMk (by assumption) (by k_mem) (G.new (by assumption) (by k_mem))) (AtomsAt.growNew (by assumption) (by k_mem) hys (G.new (by assumption) (by k_mem)) fun i x q => (hat i x q).up (Im.stays I' (by assumption) (by assumption) (by walk_at "my sub"))) (TupAt.growMk (by assumption) (by k_mem) (G.new (by assumption) (by k_mem))) (LstAt.growMk (by assumption) (by k_mem) (G.new (by assumption) (by k_mem)))
section
variable {w : World} {mg mb : Str → Option Value} {A : Around} {s : Shared} {g : Heap} {news : List (Addr × Obj)} {R : Result → Shared → Prop}
  {name qual : Str} {pO pA : List Arg} {pV : Option Arg} {pK : List Arg} {pD : List (Option Expr)} {pW : Option Arg} {pF : List Expr} {b₀ : Stmt} {bs : List Stmt} {sk : ScopeKind} {sn : List (Str × NameKind)} {sg sc : Bool} {sm : List (Str × Const)} {dV kV doc pm cdv ct oc : Value} {an od : Option Addr} {osl : Array (Option Value)} {f : Addr} {args : Args} {binds : List (Str × Value)}

theorem enterC (B : Bs w mg mb g) (S : g.StaysIn s.heap) (hD : ∀ p ∈ news, s.heap.get? p.1 = some p.2 ∧ g.get? p.1 = none)
    (ho : (heapK w.params).lookup f = some ⟨oc, od, .func (fnOf name qual ⟨pO, pA, pV, pK, pD, pW, pF⟩ (b₀ :: bs) (Scope.mk sk sn sg sc sm) dV kV doc pm an cdv ct), osl⟩)
    (hcd : codeIn (heapK w.params) cdv qual = true) (hroom : A.depth < recursionLimit)
    (hbind : BindsTo s (fnOf name qual ⟨pO, pA, pV, pK, pD, pW, pF⟩ (b₀ :: bs) (Scope.mk sk sn sg sc sm) dV kV doc pm an cdv ct) args binds)
    (hkind : (binds.all fun y => (Scope.mk sk sn sg sc sm).names.lookup y.1 == some .local || (Scope.mk sk sn sg sc sm).names.lookup y.1 == some .cell) = true)
    (hnd : ((cellsFrom 0 (Scope.mk sk sn sg sc sm).names []).map (·.1)).Nodup)
    (h : ∀ g₁ L h₁ tk cells, Gd s.heap news g g₁ → Fr g₁ L h₁ (bindL (envOfC qual (Scope.mk sk sn sg sc sm) L f cdv).kindOf binds fun _ => none) → News g₁ L h₁ (cells ++ news) →
      CellsAre (bindC (envOfC qual (Scope.mk sk sn sg sc sm) L f cdv).kindOf binds fun _ => none) (cellsFrom (L + 1) (Scope.mk sk sn sg sc sm).names []) cells → (∀ p ∈ news, p.1 < L) → (heapK w.params).In g₁ → TopRead VG LG mg mb g₁ →
      wpAny (model PG w) (A.deeper (envOfC qual (Scope.mk sk sn sg sc sm) L f cdv)) (execs (b₀ :: bs) (envOfC qual (Scope.mk sk sn sg sc sm) L f cdv))
        (fun fl s' => R (.ok (.ret (match fl with | .ret v => v | _ => .none))) s') (fun _ _ => False) { s with heap := h₁, toks := tk })
    (hco : (Scope.mk sk sn sg sc sm).isCoroutine = false) (hgen : (Scope.mk sk sn sg sc sm).isGenerator = false) (hk : (Scope.mk sk sn sg sc sm).kind = .function) :
    codeAny (model PG w) A (.call (.ref f) args) R s := by
  have B' := B.up S
  refine codeAny_call_function (fd := fnOf name qual ⟨pO, pA, pV, pK, pD, pW, pF⟩ (b₀ :: bs) (Scope.mk sk sn sg sc sm) dV kV doc pm an cdv ct) hroom (B'.k _ _ ho) rfl hco hgen rfl (codeRec_of B'.k hcd) (hbind _ _ _ _ ?_)
  refine wpAny_newFunctionEnv_cells hk (kindsX hkind _) fun env' he s' x => ?_
  subst he
  refine ⟨B'.t.nolimit.keeps x.toInCall.keep, codeAny_func ?_⟩
  obtain ⟨h₁, tk, rfl, _⟩ := x.done
  have hk₁ := x.toInCall.keep
  obtain ⟨cells, NC, Y⟩ := Cl.news (h₀ := s.heap) (Nat.le_refl _) fun n c hm => ⟨x.cell n c (lookup_of_mem_nodup (cellsFrom_names (Scope.mk sk sn sg sc sm).names 0 (s.heap.objs.size + 1) [] [] rfl ▸ hnd) hm), x.above n c hm⟩
  have nm : ∀ b o, g.get? b = some o → b ∉ news.map (·.1) := fun b o e q => by
    obtain ⟨p, hp, rfl⟩ := List.mem_map.mp q
    rw [(hD p hp).2] at e; cases e
  have st : g.StaysIn (hideAll s.heap (news.map (·.1))) := fun b o e => hideAll_get _ (S b o e) (nm b o e)
  have B₁ := B.up st
  refine wpAny_mono (h _ s.heap.objs.size h₁ tk cells ⟨st, fun a o e n => hideAll_get _ e fun q => ?_, fun a o e => of_hideAll _ e, fun p hp => hideAll_none _ (List.mem_map_of_mem hp)⟩
    ⟨x.toInCall.ns, fun b o e => hk₁ b o (of_hideAll _ e), Nat.le_of_eq (hideAll_size _ _)⟩
    (fun p hp => ?_) Y (fun p hp => Heap.lt_size (hD p hp).1) B₁.k B₁.t) (fun _ _ q => q) fun _ _ q => q.elim
  · obtain ⟨p, hp, e'⟩ := List.mem_map.mp q
    exact n p hp e'
  · rcases List.mem_append.mp hp with hp | hp
    · refine ⟨(NC p hp).1, (NC p hp).2.1, ?_⟩
      cases q : (hideAll s.heap (news.map (·.1))).get? p.1 with
      | none => rfl
      | some o => have := of_hideAll _ q; rw [(NC p hp).2.2] at this; cases this
    · exact ⟨hk₁ _ _ (hD p hp).1, Nat.ne_of_lt (Heap.lt_size (hD p hp).1), hideAll_none _ (List.mem_map_of_mem hp)⟩
end
theorem uids_ints (T : Nat → Tok) : ∀ n : Nat, IntsAre ((List.range n).map fun (i : Nat) => Value.int ((i : Int) + 1) (T i)) ((List.range n).map fun (i : Nat) => (i : Int) + 1)
  | 0 => .nil
  | n + 1 => by
    rw [List.range_succ, List.map_append, List.map_append]
    exact ksk_snoc (uids_ints T n)
/-- the list of the uids 1 .. n -/
def UidsAt (h : Heap) (a : Addr) (n : Nat) : Prop := ∃ (T : Nat → Tok) (e : Nat), h.get? a = some (LO ((List.range n).map fun (i : Nat) => .int ((i : Int) + 1) (T i)) e)
theorem UidsAt.up {h h' : Heap} {a : Addr} {n : Nat} (k : h.StaysIn h') : UidsAt h a n → UidsAt h' a n := fun ⟨T, e, x⟩ => ⟨T, e, k _ _ x⟩
theorem UidsAt.list {h : Heap} {a : Addr} {n : Nat} : UidsAt h a n → ∃ vs : List Value, h.IsList a vs.toArray ∧ IntsAre vs ((List.range n).map fun (i : Nat) => (i : Int) + 1) := fun ⟨T, e, x⟩ => ⟨_, ⟨_, x, rfl, e, rfl⟩, uids_ints T n⟩
section
variable {w : World} {A : Around} {E : Value → Shared → Prop} {s : Shared} {a b : Addr} {n : Nat} {Q : Value → Shared → Prop}
theorem uids_eq (ha : UidsAt s.heap a n) (hb : UidsAt s.heap b n) (hu : A.units + 64 < cLine) (h : Q (.bool true) s) : wpAny (model PG w) A (compareOp .Eq (.ref a) (.ref b)) Q E s := by
  obtain ⟨vs, l1, i1⟩ := ha.list
  obtain ⟨us, l2, i2⟩ := hb.list
  exact ke_eq_ints l1 l2 i1 i2 hu (by rw [decide_eq_true rfl]; exact h)
theorem nil_eq {vs : List Value} {e e' : Nat} (ha : s.heap.get? a = some (LO vs e)) (hb : s.heap.get? b = some (LO [] e')) (hu : A.units + 64 < cLine) (h : Q (.bool vs.isEmpty) s) : wpAny (model PG w) A (compareOp .Eq (.ref a) (.ref b)) Q E s := by
  cases vs with
  | nil => exact PySem.P.eq_list (e := fun _ => true) ha hb rfl (fun j h1 _ => absurd h1 (Nat.not_lt_zero _)) (by omega) h
  | cons v r => exact PySem.P.eq_list_lengths ha hb (by simp) (by omega) h
end
/-- is letter i stale for the view? -/
def stale (vfl fl : Nat → List Str) (uses : Bool) (vm ms : Nat → Int) (i : Nat) : Bool := !decide (vfl i = fl i) || (uses && !decide (vm i = ms i))
theorem filter_empty {n : Nat} {p : Nat → Bool} {Y : Nat → Value} : (((List.range n).filter p).map Y).isEmpty = (List.range n).all fun i => !p i := by
  rw [List.isEmpty_map, Bool.eq_iff_iff]
  simp
local macro_rules | `(tactic| walk_at "eval ListComp") => `(tactic| (k_here; k_dflt (refine' cp_eval ?c ?k ?n ?_ ?s; (case c => exact rfl); (case k => rfl); (case n => decide); (case s => (intro _; rfl)); k_whole)))
local macro_rules | `(tactic| walk_at "eval Name") => `(tactic| (k_inBlock; k_dflt (refine' nameC_C ?c ?o ?d ?_ ?k ?l ?b; (case k => rfl); (case l => rfl); (case b => decide); (case c => rfl); (case o => exact Fr.keep (by with_reducible assumption) _ _ (News.get (by with_reducible assumption) (by k_mem))); (case d => with_reducible assumption); k_whole)))
local macro_rules | `(tactic| walk_at "my fls") => `(tactic| exact FlagsIn.up (Fr.keep (by with_reducible assumption)) (by with_reducible assumption))
local macro_rules | `(tactic| walk_at "my letterup") => `(tactic| exact LetterAt.up (Fr.keep (by with_reducible assumption)) (by walk_at "my letter"))
local macro_rules | `(tactic| walk_at "call ref") => `(tactic| (k_here; (with_reducible show wpAny _ _ (call (Value.ref 123) _) _ _ _); k_dflt (refine' isStale_spec ?B ?hA ?hU ?hV ?hL ?hf ?ht ?df ?dm ?hF ?hn ?u0 ?u1 ?_; (case B => walk_at "my base"); (case hA => walk_at "my room"); (case hU => (dsimp only [AR, Around.deeper, Around.in1]; omega)); (case hV => walk_at "my view"); (case hL => walk_at "my letterup"); (case ht => walk_at "my fl"); (case hf => walk_at "my isfl"); (case df => walk_at "my dict"); (case dm => walk_at "my dict"); (case hF => walk_at "my fls"); (case hn => omega); (case u0 => omega); (case u1 => omega)); walk_at "my after"))
local macro_rules | `(tactic| walk_at "call ref") => `(tactic| (k_here; (with_reducible show wpAny _ _ (call (Value.ref 269) _) _ _ _); k_dflt (refine uids_spec (by walk_at "my base") (by walk_at "my room") (by walk_at "my box") (by walk_at "my letters") (by omega) ?_); intro h' tk' D' n' T' k' f' g'; (have l' := newsNe (by with_reducible assumption) f'); (try simp only [AllNe, and_true] at l'); (have F'' := Fr.keeps (by with_reducible assumption) k'); (have N'' := newsAdd (by with_reducible assumption) (by with_reducible assumption) k' f' g'); (try k_sweep); (try dsimp only)))
section PartUpTo
local macro_rules | `(tactic| walk_at "compareOp Eq ref ref") => `(tactic| (k_here; k_dflt (refine uids_eq (by exact UidsAt.up (Fr.keep (by with_reducible assumption)) (by with_reducible assumption)) ⟨_, _, News.get (by with_reducible assumption) (by k_mem)⟩ (by walk_at "my units") ?_)))
local macro_rules | `(tactic| walk_at "compareOp Eq ref ref") => `(tactic| (k_here; k_dflt (refine nil_eq (News.get (by with_reducible assumption) (by k_mem)) (News.get (by with_reducible assumption) (by k_mem)) (by walk_at "my units") ?_)))
theorem upTo_spec {w : World} {mg mb : Str → Option Value} {dep un : Nat} {fr : Option (List Env)} {gd : Option (List Code)} {s : Shared} {E : Value → Shared → Prop} {Q : Value → Shared → Prop} {view box bd ll ul fd md : Addr} {nx top : Int} {uses : Bool} {n : Nat} {l tp : Nat → Addr} {ms : Nat → Int} {fl : Nat → List Str} {va : Nat → Addr} {vfl : Nat → List Str} {vm : Nat → Int} {vt : Nat → Tok}
    (B : Bs w mg mb s.heap) (hA : dep < 860) (hU : un < 4000) (hV : ViewAt s.heap view box ul fd md uses) (hB : BoxAt s.heap box bd ll nx top) (hL : LettersAt s.heap ll n l tp ms) (hF : FlagsIn s.heap n tp fl) (hul : UidsAt s.heap ul n) (df : DictI w s.heap fd n fun i => .ref (va i)) (dm : DictI w s.heap md n fun i => .int (vm i) (vt i)) (hVF : FlagsIn s.heap n va vfl) (hn : n ≤ 100)
    (k : ∀ h' tk, s.heap.StaysIn h' → Q (.bool ((List.range n).all fun i => !stale vfl fl uses vm ms i)) { s with heap := h', toks := tk }) :
    wpAny (model PG w) (AR dep fr gd un) (call (.ref 140) [.ref view]) Q E s := by
  refine wpAny_call ?_
  refine' enterC (binds := [(Str.ofString "view", .ref view)]) (news := []) B (fun _ _ e => e) (fun _ hp => nomatch hp) ?ho ?hcd ?hA ?hbind ?hkind ?hnd ?h ?hco ?hgen ?hk
  (case ho => k_is); (case hcd => k_is); (case hA => exact Nat.lt_of_lt_of_le hA (by decide)); (case hbind => exact BindsTo.of_eq rfl); (case hkind => exact rfl); (case hnd => decide +kernel); (case hco => exact rfl); (case hgen => exact rfl); (case hk => exact rfl)
  case h =>
    intro g₁ L h₁ tk₁ cells G F' N' Y' l1 X' T'
    k_cells Y'
    rename (_ : Data) = Data.cell _ => dc
    replace dc : _ = Data.cell (some (.ref view)) := dc
    have hV' := hV.up G.sub
    have hB' := hB.up G.sub
    have hL' := hL.up G.sub
    have hF' := hF.up G.sub
    have hul' := hul.up G.sub
    have df' := df.up G.sub
    have dm' := dm.up G.sub
    have hVF' := hVF.up G.sub
    (try simp only [List.cons_append, List.nil_append] at N')
    k_steps
    rename Fr _ _ _ _ => Fc
    rename News _ _ _ _ => Nc
    have X₁ := X'.keeps Fc.keep
    have T₁ := T'.keeps Fc.keep
    have hV₁ := hV'.up Fc.keep
    have hL₁ := hL'.up Fc.keep
    have hF₁ := hF'.up Fc.keep
    have df₁ := df'.up Fc.keep
    have dm₁ := dm'.up Fc.keep
    have hVF₁ := hVF'.up Fc.keep
    refine cp_filter (l := ll) (items := ((List.range n).map fun i => Value.ref (l i)).toArray) (.inl hL₁.isList) ?_ ?_ ?_ ?_ ?_ (stale vfl fl uses vm ms) (fun _ _ _ => True) (fun _ _ _ _ _ e => e) ?_ ?_ ?_
    · rfl
    · simp; omega
    · decide
    · rfl
    · rfl
    · intro C i v h tk m hv F₂ hm
      obtain ⟨hi, rfl⟩ := range_item hv
      have kk := F₂.keep
      have e1 : (((i : Nat) : Int) + 1 - 1).toNat = i := by omega
      k_steps
      refine TestEnd.intro ?_ (by assumption)
      rw [e1]; rfl
    · intro C i v h tk m hp hv F₂ hm
      obtain ⟨hi, rfl⟩ := range_item hv
      have kk := F₂.keep
      k_steps
      exact EltEnd.intro (fun _ _ e => e) trivial
    · intro D h' tk n' Y hs hal hget hY
      clear X₁ T₁ hV₁ hL₁ hF₁ df₁ dm₁ hVF₁
      have e : ((List.range n).map fun i => Value.ref (l i)).toArray.size = n := by simp
      rw [e] at hget hY
      have F₁ := Fr.keeps Fc hs
      have N₁ := newsAdd Fc Nc hs hal hget
      have l2 := newsNe Nc hal
      simp only [AllNe, and_true] at l2
      clear Fc Nc hY hget
      k_steps
      rw [filter_empty]
      exact k _ _ (G.stays (by assumption))
end PartUpTo
section
variable {prog : Program} {w : World} {M : Model} {A : Around} {E : Value → Shared → Prop} {s : Shared} {Q : Value → Shared → Prop}
theorem size_none {h : Heap} : h.get? h.objs.size = none := by
  cases e : h.get? h.objs.size with
  | none => rfl
  | some o => exact absurd (Heap.lt_size e) (Nat.lt_irrefl _)
theorem new_tuple {vs : List Value} (h : ∀ D h', s.heap.StaysIn h' → s.heap.get? D = none → h'.get? D = some ({ cls := .type "tuple", data := .seq vs.toArray 0 } : Obj) → Q (.ref D) { s with heap := h' }) (hz : vs.length ≤ 1000) : wpAny M A (newTuple vs) Q E s :=
  wpAny_newObj_type (h _ _ (fun _ _ e => Heap.get?_push_of_some _ e) size_none (Heap.get?_push_size _ rfl)) (by show vs.toArray.size ≤ sizeLine; rw [List.size_toArray, sizeLine_eq]; omega)
theorem new_list {vs : List Value} (h : ∀ D h', s.heap.StaysIn h' → s.heap.get? D = none → h'.get? D = some (LO vs 0) → Q (.ref D) { s with heap := h' }) (hz : vs.length ≤ 1000) : wpAny M A (newList vs) Q E s :=
  wpAny_newObj_type (h _ _ (fun _ _ e => Heap.get?_push_of_some _ e) size_none (Heap.get?_push_size _ rfl)) (by show vs.toArray.size ≤ sizeLine; rw [List.size_toArray, sizeLine_eq]; omega)
theorem tuple_of {l : Addr} {vs : List Value} {n : Nat} (hl : s.heap.get? l = some (LO vs n)) (h : ∀ D h', s.heap.StaysIn h' → s.heap.get? D = none → h'.get? D = some ({ cls := .type "tuple", data := .seq vs.toArray 0 } : Obj) → Q (.ref D) { s with heap := h' }) (hz : vs.length ≤ 1000) :
    wpAny (model prog w) A (call (.type "tuple") [.ref l]) Q E s :=
  call_tuple_list (items := vs.toArray) ⟨_, hl, rfl, n, rfl⟩ (fun h' hk => h _ _ (fun _ _ e => Heap.get?_push_of_some _ (hk _ _ e)) (none_sub hk size_none) (Heap.get?_push_size _ rfl)) (by rw [List.size_toArray, sizeLine_eq]; omega)
theorem range_of {n : Int} {t : Tok} (h : ∀ D h' tk t₁ u₁ v₁, s.heap.StaysIn h' → s.heap.get? D = none → IsRange h' D 0 n 1 t₁ u₁ v₁ → Q (.ref D) { s with heap := h', toks := tk }) :
    wpAny (model prog w) A (call (.type "range") [.int n t]) Q E s :=
  call_range_1 (h _ _ _ _ _ _ (fun _ _ e => Heap.get?_push_of_some _ e) size_none (IsRange.new ..))
end
section
variable {prog : Program} {w : World} {A : Around} {E : Value → Shared → Prop} {s : Shared} {env : Env} {h₀ : Heap} {x : Str} {body : List Stmt} {Q : Flow → Shared → Prop}
theorem iter_range {r : Addr} {n : Nat} {t₁ u₁ v₁ : Tok} {m₀ : Str → Option Value} {news : List (Addr × Obj)} (J : Nat → (Str → Option Value) → List (Addr × Obj) → Prop)
    (hh : A.handled = none) (hr : IsRange s.heap r 0 (n : Int) 1 t₁ u₁ v₁) (hn : n ≤ 1000)
    (F : Fr h₀ env.locals s.heap m₀) (N : News h₀ env.locals s.heap news) (hj : J 0 m₀ news)
    (turn : ∀ i t m₁ news₁ h tk I io, i < n → J i m₁ news₁ → (∀ p ∈ news₁, p.1 ≠ I) → Fr h₀ env.locals h (fun y => if y = x then some (.int (i : Int) t) else m₁ y) → News h₀ env.locals h ((I, io) :: news₁) →
      wpAny (model prog w) A (execs body env) (ItPost h₀ env.locals (J (i + 1)) I io { s with heap := h, toks := tk } Q) E { s with heap := h, toks := tk })
    (done : ∀ m₁ news₁ h tk, J n m₁ news₁ → Fr h₀ env.locals h m₁ → News h₀ env.locals h news₁ → Q .next { s with heap := h, toks := tk }) :
    wpAny (model prog w) A (pyIter (.ref r)) (fun it s₂ => LoopAtV prog w A h₀ env x body Q E it s₂) E s := by
  have e0 : Builtin.Range.rangeSize 0 (n : Int) 1 = (n : Int) := by rw [rangeSize_nat]; omega
  refine wpAny_pyIter_range hr (small_one (by decide) (by decide) (by omega) (by omega)) ?_
  rw [e0]
  refine iter_core J rfl (Walks.range hh s.heap.objs.size 0 1 n) (fun i h st => ⟨_, st⟩) rfl (fun q => ?_) (fun b hb => .inl (List.mem_singleton.mp hb)) (.head _) (by show IsRangeIter _ _ _ _ _; simpa using Heap.get?_push_size s.heap (o := { cls := .type "range_iterator", data := .fields #[rawInt 0, rawInt n, rawInt 1] }) rfl) F N hj ?_ done
  · exact absurd F.ns.lt (by rw [List.mem_singleton.mp q]; exact Nat.lt_irrefl _)
  · rintro i v m₁ news₁ h tk io hi ⟨t, rfl⟩ hJ ne F' N'
    have e1 : (0 : Int) + (i : Int) * 1 = (i : Int) := by omega
    rw [e1] at F'
    exact turn i t m₁ news₁ h tk _ io hi hJ ne F' N'
end
local macro_rules | `(tactic| walk_at "my im") => `(tactic| exact Im.stays (by with_reducible assumption) (by with_reducible assumption) (by with_reducible assumption) (by walk_at "my sub"))
local macro_rules | `(tactic| walk_at "my go") => `(tactic| ((fail_if_success (with_reducible show wpAny _ _ (pyIter _) _ _ _)); (fail_if_success (with_reducible show wpAny _ _ (execs (Stmt.Assign [Expr.Name _ _] (Expr.List (_ :: _) _) _ :: _) _) _ _ _)); (fail_if_success (with_reducible show wpAny _ _ (getMethod (Value.ref _) (PySem.Str.ofString "told") _) _ _ _)); (fail_if_success (with_reducible show wpAny _ _ (call (Value.ref 128) _) _ _ _)); (fail_if_success (with_reducible show wpAny _ _ (call (Value.ref 323) _) _ _ _)); (fail_if_success (with_reducible show wpAny _ _ (call (Value.ref 302) _) _ _ _)); (fail_if_success (with_reducible show wpAny _ _ (call (Value.ref 309) _) _ _ _)); (fail_if_success (with_reducible show wpAny _ _ (call (Value.ref 116) _) _ _ _)); (fail_if_success (with_reducible show wpAny _ _ (call (Value.ref 135) _) _ _ _)); (fail_if_success (with_reducible show wpAny _ _ (call (Value.ref 95) _) _ _ _)); (fail_if_success (with_reducible show wpAny _ _ (call (Value.ref 98) _) _ _ _)); (fail_if_success (with_reducible show wpAny _ _ (call (Value.ref 140) _) _ _ _))))
local macro_rules | `(tactic| walk_at "my steps") => `(tactic| repeat' (first | (k_unfold; (try dsimp only)) | ((walk_at "my go"); first | (k_end; wrow_close) | walk1 | (dsimp only; walk1) | (leave1; try dsimp only))))
local macro_rules | `(tactic| walk_at "call type:range") => `(tactic| (k_here; k_dflt (refine range_of ?_; intro D' h' tk' t1' u1' v1' k' f' r'; (have F'' := Fr.keeps (by assumption) k'); (try (have N'' := News.grown (by assumption) k')); (try k_sweep); (try dsimp only))))
section PartTold
/-- what the view tells: a tuple of triples -/
def ToldAt (h : Heap) (D : Addr) (n : Nat) (va : Nat → Addr) (vm : Nat → Int) : Prop :=
  ∃ Y : Nat → Addr, TupAt h D ((List.range n).map fun i => .ref (Y i)) ∧ ∀ i, i < n → ∃ ti tm, TupAt h (Y i) [.int ((i : Int) + 1) ti, .ref (va i), .int (vm i) tm]
theorem ToldAt.up {h h' : Heap} {D : Addr} {n : Nat} {va : Nat → Addr} {vm : Nat → Int} (k : h.StaysIn h') : ToldAt h D n va vm → ToldAt h' D n va vm :=
  fun ⟨Y, e, z⟩ => ⟨Y, e.up k, fun i hi => let ⟨a, b, c⟩ := z i hi; ⟨a, b, c.up k⟩⟩
theorem uids_item {n i : Nat} {T : Nat → Tok} {v : Value} (e : (((List.range n).map fun (i : Nat) => Value.int ((i : Int) + 1) (T i)).toArray)[i]? = some v) : i < n ∧ v = .int ((i : Int) + 1) (T i) := range_item (f := fun i => Value.int ((i : Int) + 1) (T i)) e
theorem choose_refs {n : Nat} {Y : Nat → Value} {P : Nat → Addr → Prop} (h : ∀ i, i < n → ∃ a, Y i = .ref a ∧ P i a) : ∃ Z : Nat → Addr, (∀ i, i < n → P i (Z i)) ∧ (List.range n).map Y = (List.range n).map fun i => .ref (Z i) := by
  have hT : ∀ i, ∃ a, i < n → Y i = .ref a ∧ P i a := fun i => by
    by_cases hi : i < n
    · obtain ⟨t, ht⟩ := h i hi; exact ⟨t, fun _ => ht⟩
    · exact ⟨0, fun z => absurd z hi⟩
  obtain ⟨T, hT⟩ := Classical.axiomOfChoice hT
  exact ⟨T, fun i hi => (hT i hi).2, List.map_congr_left fun i hi => (hT i (List.mem_range.mp hi)).1⟩
local macro_rules | `(tactic| walk_at "newTuple") => `(tactic| (k_here; k_dflt (refine new_tuple ?_ (by simp)); intro D' h' k' f' g'; (have F'' := Fr.keeps (by with_reducible assumption) k'); (try k_sweep); (try dsimp only)))
theorem told_spec {w : World} {mg mb : Str → Option Value} {dep un : Nat} {fr : Option (List Env)} {gd : Option (List Code)} {s : Shared} {E : Value → Shared → Prop} {Q : Value → Shared → Prop} {view box ul fd md : Addr} {uses : Bool} {n : Nat} {va : Nat → Addr} {vm : Nat → Int} {vt : Nat → Tok}
    (B : Bs w mg mb s.heap) (hA : dep < 860) (hV : ViewAt s.heap view box ul fd md uses) (hul : UidsAt s.heap ul n) (df : DictI w s.heap fd n fun i => .ref (va i)) (dm : DictI w s.heap md n fun i => .int (vm i) (vt i)) (hn : n ≤ 100)
    (k : ∀ h' tk D, s.heap.StaysIn h' → s.heap.get? D = none → (∀ g₀, ToldAt (grow g₀ s.heap h') D n va vm) → Q (.ref D) { s with heap := h', toks := tk }) :
    wpAny (model PG w) (AR dep fr gd un) (call (.ref 95) [.ref view]) Q E s := by
  refine wpAny_call ?_
  refine' enterC (binds := [(Str.ofString "self", .ref view)]) (news := []) B (fun _ _ e => e) (fun _ hp => nomatch hp) ?ho ?hcd ?hA ?hbind ?hkind ?hnd ?h ?hco ?hgen ?hk
  (case ho => k_is); (case hcd => k_is); (case hA => exact Nat.lt_of_lt_of_le hA (by decide)); (case hbind => exact BindsTo.of_eq rfl); (case hkind => exact rfl); (case hnd => decide +kernel); (case hco => exact rfl); (case hgen => exact rfl); (case hk => exact rfl)
  case h =>
    intro g₁ L h₁ tk₁ cells G F' N' Y' l1 X' T'
    k_cells Y'
    rename (_ : Data) = Data.cell _ => dc
    replace dc : _ = Data.cell (some (.ref view)) := dc
    have hV' := hV.up G.sub
    have hul' := hul.up G.sub
    have df' := df.up G.sub
    have dm' := dm.up G.sub
    (try simp only [List.cons_append, List.nil_append] at N')
    k_steps
    rename Fr _ _ _ _ => Fc
    rename News _ _ _ _ => Nc
    have X₁ := X'.keeps Fc.keep
    have T₁ := T'.keeps Fc.keep
    have hV₁ := hV'.up Fc.keep
    have df₁ := df'.up Fc.keep
    have dm₁ := dm'.up Fc.keep
    obtain ⟨T, e, hul₁⟩ := hul'.up Fc.keep
    refine cp_map (l := ul) (items := ((List.range n).map fun (i : Nat) => Value.int ((i : Int) + 1) (T i)).toArray) (.inl ⟨_, hul₁, rfl, e, rfl⟩) ?_ ?_ ?_ ?_ ?_ (fun i y h => ∃ a, y = .ref a ∧ (frHeap Fc).get? a = none ∧ ∃ ti tm, TupAt h a [.int ((i : Int) + 1) ti, .ref (va i), .int (vm i) tm]) (fun i y h h' kk ⟨a, e, f, ti, tm, z⟩ => ⟨a, e, f, ti, tm, z.up kk⟩) ?_ ?_
    · rfl
    · simp; omega
    · decide
    · rfl
    · rfl
    · intro C i v h tk m hv F₂ hm
      obtain ⟨hi, rfl⟩ := uids_item hv
      have kk := F₂.keep
      have e1 : (((i : Nat) : Int) + 1 - 1).toNat = i := by omega
      k_steps
      rename_i D' h' k' f' g' F''
      rw [e1] at g'
      exact EltEnd.intro k' ⟨D', rfl, none_sub kk f', _, _, 0, grow_new g' f'⟩
    · intro al h' tk n' Y hs hal hget hY
      clear X₁ T₁ hV₁ df₁ dm₁
      have e : ((List.range n).map fun (i : Nat) => Value.int ((i : Int) + 1) (T i)).toArray.size = n := by simp
      rw [e] at hget hY
      obtain ⟨Z, hZ, eZ⟩ := choose_refs hY
      rw [eZ] at hget
      have F₁ := Fr.keeps Fc hs
      have N₁ := newsAdd Fc Nc hs hal hget
      have l2 := newsNe Nc hal
      simp only [AllNe, and_true] at l2
      have S₁ := G.stays Fc
      clear Nc hY hget
      walk1
      k_dflt (refine tuple_of (News.get (by with_reducible assumption) (by k_mem)) ?_ (by simp; omega))
      intro D' h'' k' f' g'
      have F'' := Fr.keeps F₁ k'
      clear F₁ N₁
      k_steps
      refine k _ _ D' (G.stays (by assumption)) (none_sub S₁ (none_sub hs f')) fun g₀ => ⟨Z, ⟨0, grow_new g' (none_sub S₁ (none_sub hs f'))⟩, fun i hi => ?_⟩
      obtain ⟨z1, ti, tm, q, z2⟩ := hZ i hi
      exact ⟨ti, tm, q, grow_new (k' _ _ z2) (none_sub S₁ z1)⟩
end PartTold
section
variable {w : World} {mg mb : Str → Option Value} {dep un : Nat} {fr : Option (List Env)} {gd : Option (List Code)} {s : Shared} {E : Value → Shared → Prop} {Q : Value → Shared → Prop}
theorem letter_specN {box bd ll : Addr} {nx top : Int} {n : Nat} {l tp : Nat → Addr} {ms : Nat → Int} {i : Nat} {tu : Tok}
    (B : Bs w mg mb s.heap) (hA : dep < 890) (hB : BoxAt s.heap box bd ll nx top) (hL : LettersAt s.heap ll n l tp ms) (hn : n ≤ 100) (hi : i < n)
    (k : ∀ h' tk, s.heap.StaysIn h' → Q (.ref (l i)) { s with heap := h', toks := tk }) :
    wpAny (model PG w) (AR dep fr gd un) (call (.ref 264) [.ref box, .int ((i : Int) + 1) tu]) Q E s := by
  have e : ((i : Int) + 1 - 1).toNat = i := by omega
  refine letter_spec B hA hB hL hn (by omega) (by omega) ?_
  rw [e]; exact k
theorem isStale_specN {view box ul fd md lt tp : Addr} {uses : Bool} {n : Nat} {va : Nat → Addr} {vfl : Nat → List Str} {vm : Nat → Int} {vt : Nat → Tok} {i : Nat} {ms : Int} {f : List Str}
    (B : Bs w mg mb s.heap) (hA : dep < 870) (hU : un < 5000) (hV : ViewAt s.heap view box ul fd md uses) (hL : LetterAt s.heap lt ((i : Int) + 1) tp ms) (hf : IsFl f) (ht : FlAt s.heap tp f) (df : DictI w s.heap fd n fun i => .ref (va i)) (dm : DictI w s.heap md n fun i => .int (vm i) (vt i)) (hF : FlagsIn s.heap n va vfl) (hn : n ≤ 100) (hi : i < n)
    (k : ∀ h' tk, s.heap.StaysIn h' → Q (.bool (!decide (vfl i = f) || (uses && !decide (vm i = ms)))) { s with heap := h', toks := tk }) :
    wpAny (model PG w) (AR dep fr gd un) (call (.ref 123) [.ref view, .ref lt]) Q E s := by
  have e : ((i : Int) + 1 - 1).toNat = i := by omega
  refine isStale_spec B hA hU hV hL hf ht df dm hF hn (by omega) (by omega) ?_
  rw [e]; exact k
theorem note_specN {g : Heap} {view box ul fd md lt tp : Addr} {uses : Bool} {of om : Obj} {n : Nat} {vf vm : Nat → Value} {i : Nat} {ms : Int}
    (B : Bs w mg mb g) (S : g.StaysIn s.heap) (hA : dep < 870) (hV : ViewAt g view box ul fd md uses) (hL : LetterAt g lt ((i : Int) + 1) tp ms) (hof : s.heap.get? fd = some of) (gf : g.get? fd = none) (df : DictO w n vf of) (hom : s.heap.get? md = some om) (gm : g.get? md = none) (dm : DictO w n vm om) (hne : @Ne Nat fd md) (hn : n ≤ 100) (hi : i < n)
    (k : ∀ h' tk of' om' t, Keep [fd, md] s.heap h' → h'.get? fd = some of' → DictO w n (fun j => if j = i then .ref tp else vf j) of' → h'.get? md = some om' → DictO w n (fun j => if j = i then .int ms t else vm j) om' → Q .none { s with heap := h', toks := tk }) :
    wpAny (model PG w) (AR dep fr gd un) (call (.ref 109) [.ref view, .ref lt]) Q E s := by
  have e : ((i : Int) + 1 - 1).toNat = i := by omega
  refine note_spec B S hA hV hL hof gf df hom gm dm hne hn (by omega) (by omega) ?_
  rw [e]; exact k
theorem uids_at {value slice : Expr} {ul : Addr} {n i : Nat} {t : Tok} (hU : UidsAt s.heap ul n) (hi : i < n) (hn : n ≤ 100)
    (h : ∀ t', Q (.int ((i : Int) + 1) t') s) (hs : subscripted slice false (.ref ul) (.int (i : Int) t) = operate [.ref ul, .int (i : Int) t] (getItem (.ref ul) (.int (i : Int) t)) := by with_unfolding_all rfl) :
    wpAny (model PG w) (AR dep fr gd un) (subscriptTail value slice (.ref ul) (.int (i : Int) t)) Q E s := by
  obtain ⟨T, e, hU⟩ := hU
  have hl : s.heap.IsList ul ((List.range n).map fun (i : Nat) => Value.int ((i : Int) + 1) (T i)).toArray := ⟨_, hU, rfl, e, rfl⟩
  refine tail_any hl.typeIs slot_list_getitem.lookup (wpAny_getItem_list (x := .int ((i : Int) + 1) (T i)) hl (by omega) (by omega) ?_ (h _)) hs
  simp [hi]
theorem uids_len {ul : Addr} {n : Nat} (hU : UidsAt s.heap ul n) (hn : n ≤ 100) (h : Q (.int n (s.toks + 1)) { s with toks := s.toks + 1 + 1 }) :
    wpAny (model PG w) (AR dep fr gd un) (call (.builtin "len") [.ref ul]) Q E s := by
  obtain ⟨T, e, hU⟩ := hU
  have hl : s.heap.IsList ul ((List.range n).map fun (i : Nat) => Value.int ((i : Int) + 1) (T i)).toArray := ⟨_, hU, rfl, e, rfl⟩
  have e : ((List.range n).map fun (i : Nat) => Value.int ((i : Int) + 1) (T i)).toArray.size = n := by simp
  exact call_len_list hl (by rw [e]; omega) (by rw [e]; exact h)
end
/-- the tail made anew behind a call that changed nothing -/
theorem Im.next {h₀ G h h' : Heap} {L : Addr} {m : Str → Option Value} {S TL : List (Addr × Obj)} (I : Im h₀ G TL) (F : Fr h₀ L h m) (N : News h₀ L h (S ++ TL)) (nG : ∀ p ∈ S, G.get? p.1 = none) (k : h.StaysIn h') :
    ∃ G' TL', Im h₀ G' TL' ∧ Fr h₀ L h' m ∧ News h₀ L h' (S ++ TL') ∧ (∀ p ∈ S, G'.get? p.1 = none) ∧ G.StaysIn G' ∧ ∀ g₀ : Heap, g₀.StaysIn G → (grow g₀ h h').StaysIn G' := by
  have F' := Fr.keeps F k
  have NS : News h₀ L h S := fun p hp => N p (List.mem_append_left _ hp)
  have GL : G.get? L = none := by
    cases e : G.get? L with
    | none => rfl
    | some o =>
      rcases I.has _ _ e with q | q
      · rw [fr_noL F] at q; cases q
      · exact absurd rfl (N _ (List.mem_append_right _ q)).2.1
  obtain ⟨G', TL', I', N', nG', _, up⟩ := Im.make F' (News.grown NS k)
  have Gh : G.StaysIn h := I.stays F N fun p hp => List.mem_append_right _ hp
  refine ⟨G', TL', I', F', N', nG', up G (fun a o e => k _ _ (Gh _ _ e)) nG GL, fun g₀ kg => up _ grow_sub (fun p hp => ?_) ?_⟩
  · exact grow_none (none_sub kg (nG p hp)) (NS p hp).1
  · obtain ⟨o, _, _, e, _⟩ := F.ns
    exact grow_none (none_sub kg GL) e
/-- an answer of flag_news -/
def FetchAt (h : Heap) (a : Addr) (i : Nat) (f : List Str) (ms : Int) (uses : Bool) : Prop :=
  ∃ p t1 t2, TupAt h a [.str (Str.ofString "fetch") t1, .int ((i : Int) + 1) t2, .ref p] ∧ PairsAt h p f ((i : Int) + 1) ms uses
theorem FetchAt.up {h h' : Heap} {a : Addr} {i : Nat} {f : List Str} {ms : Int} {uses : Bool} (k : h.StaysIn h') : FetchAt h a i f ms uses → FetchAt h' a i f ms uses :=
  fun ⟨p, t1, t2, z1, z2⟩ => ⟨p, t1, t2, z1.up k, z2.up k⟩
/-- nothing -/
def bare (h : Heap) : Heap := only h fun _ => false
theorem bare_none {h : Heap} {a : Addr} : (bare h).get? a = none := by unfold bare; rw [only_get]; rfl
theorem bare_sub {h g : Heap} : (bare h).StaysIn g := fun a o e => by rw [bare_none] at e; cases e
/-- the letters known up to i -/
def upto (i : Nat) (st : Nat → Bool) {α : Type} (f g : Nat → α) (j : Nat) : α := if j < i ∧ st j = true then f j else g j
theorem upto_zero {st : Nat → Bool} {α : Type} {f g : Nat → α} : upto 0 st f g = g := funext fun j => by unfold upto; rw [if_neg (by omega)]
theorem upto_no {st : Nat → Bool} {α : Type} {f g : Nat → α} {i : Nat} (h : st i = false) : upto (i + 1) st f g = upto i st f g := funext fun j => by
  unfold upto
  by_cases e : j = i
  · subst e; simp [h]
  · by_cases q : j < i
    · simp only [show (j < i + 1) = (j < i) from propext ⟨fun _ => q, fun _ => by omega⟩]
    · rw [if_neg (by omega), if_neg (by omega)]
theorem upto_yes {st : Nat → Bool} {α : Type} {f g : Nat → α} {i : Nat} (h : st i = true) : upto (i + 1) st f g = fun j => if j = i then f i else upto i st f g j := funext fun j => by
  unfold upto
  by_cases e : j = i
  · subst e; simp [h]
  · rw [if_neg e]
    by_cases q : j < i
    · simp only [show (j < i + 1) = (j < i) from propext ⟨fun _ => q, fun _ => by omega⟩]
    · rw [if_neg (by omega), if_neg (by omega)]
theorem upto_at {st : Nat → Bool} {α : Type} {f g : Nat → α} {i : Nat} : upto i st f g i = g i := by unfold upto; rw [if_neg (by omega)]
theorem FlagsIn.upto {h : Heap} {n i : Nat} {st : Nat → Bool} {tp va : Nat → Addr} {fl vfl : Nat → List Str} (a : FlagsIn h n tp fl) (b : FlagsIn h n va vfl) : FlagsIn h n (upto i st tp va) (upto i st fl vfl) := fun j hj => by
  unfold Mine.upto
  by_cases q : j < i ∧ st j = true
  · rw [if_pos q, if_pos q]; exact a j hj
  · rw [if_neg q, if_neg q]; exact b j hj
theorem grow_mono {g₀ h G G' : Heap} (k : G.StaysIn G') : (grow g₀ h G).StaysIn (grow g₀ h G') := fun a o e => by
  unfold grow at e ⊢
  rw [only_get] at e ⊢
  split at e
  · rename_i q
    rw [if_pos q]; exact k _ _ e
  · cases e
theorem grow_bare {x h₀ h h' G : Heap} (k : h₀.StaysIn h) (u : (grow (bare x) h h').StaysIn G) : (grow (bare x) h h').StaysIn (grow (bare x) h₀ G) := fun a o e => by
  refine grow_new (u _ _ e) (none_sub k ?_)
  rcases grow_is bare_sub e with q | q
  · rw [bare_none] at q; cases q
  · exact q
theorem Im.off {h₀ G h : Heap} {L a : Addr} {m : Str → Option Value} {TL news : List (Addr × Obj)} {o : Obj} (I : Im h₀ G TL) (N : News h₀ L h news) (hm : (a, o) ∈ news) (n : ∀ p ∈ TL, p.1 ≠ a) : G.get? a = none := by
  cases e : G.get? a with
  | none => rfl
  | some o' =>
    rcases I.has _ _ e with q | q
    · rw [N.fresh hm] at q; cases q
    · exact absurd rfl (n _ q)
/-- an object of the ledger goes into the tail -/
theorem Im.take {h₀ G h : Heap} {L t : Addr} {o : Obj} {m : Str → Option Value} {S TL : List (Addr × Obj)} (I : Im h₀ G TL) (F : Fr h₀ L h m) (N : News h₀ L h ((t, o) :: (S ++ TL))) (nG : ∀ p ∈ S, G.get? p.1 = none) (nt : ∀ p ∈ S, p.1 ≠ t) :
    ∃ G' TL', Im h₀ G' TL' ∧ News h₀ L h (S ++ TL') ∧ (∀ p ∈ S, G'.get? p.1 = none) ∧ G.StaysIn G' ∧ G'.get? t = some o := by
  have NS : News h₀ L h S := fun p hp => N p (.tail _ (List.mem_append_left _ hp))
  have GL : G.get? L = none := by
    cases e : G.get? L with
    | none => rfl
    | some o =>
      rcases I.has _ _ e with q | q
      · rw [fr_noL F] at q; cases q
      · exact absurd rfl (N _ (.tail _ (List.mem_append_right _ q))).2.1
  obtain ⟨G', TL', I', N', nG', _, up⟩ := Im.make F NS
  have T := N (t, o) (.head _)
  refine ⟨G', TL', I', N', nG', up G (I.stays F N fun p hp => .tail _ (List.mem_append_right _ hp)) nG GL, ?_⟩
  have e1 : (only h fun a => decide (a = t)).get? t = some o := only_of T.1 (by simp)
  refine up (only h fun a => decide (a = t)) only_sub (fun p hp => ?_) ?_ _ _ e1
  · rw [only_get, if_neg (by simpa using nt p hp)]
  · rw [only_get, if_neg (by simpa using Ne.symm T.2.1)]
theorem append_LO {prog : Program} {w : World} {A : Around} {E : Value → Shared → Prop} {s : Shared} {h₀ : Heap} {L D : Addr} {m : Str → Option Value} {news news' : List (Addr × Obj)} {vs : List Value} {n : Nat} {v : Value} {Q : Value → Shared → Prop} (F : Fr h₀ L s.heap m) (N : News h₀ L s.heap news) (U : Upd D (LO vs n) (LO (vs ++ [v]) (n + 1)) news news') (hz : vs.length ≤ 1000)
    (h : ∀ h', Fr h₀ L h' m → News h₀ L h' news' → Q .none { s with heap := h' }) : wpAny (model prog w) A (call (.builtin "list.append") [.ref D, v]) Q E s := by
  have e : vs.toArray.push v = (vs ++ [v]).toArray := by simp
  refine append_K (its := vs.toArray) (n := n) F N (news' := news') ?_ h (by rw [List.size_toArray, sizeLine_eq]; omega)
  rw [e]; exact U
local macro_rules | `(tactic| walk_at "call ref") => `(tactic| (k_here; (with_reducible show wpAny _ _ (call (Value.ref 109) _) _ _ _); k_dflt (refine note_specN ⟨by with_reducible assumption, by with_reducible assumption⟩ (Fr.keep (by with_reducible assumption)) (by walk_at "my room") (by with_reducible assumption) (by walk_at "my letterG") (News.get (by with_reducible assumption) (by k_mem)) (News.fresh (by with_reducible assumption) (by k_mem)) (by with_reducible assumption) (News.get (by with_reducible assumption) (by k_mem)) (News.fresh (by with_reducible assumption) (by k_mem)) (by with_reducible assumption) (by with_reducible assumption) (by with_reducible assumption) (by with_reducible assumption) ?_); intro h' tk' of' om' t' k' e1' d1' e2' d2'; (refine and2 (newsUpd2 (by with_reducible assumption) (by with_reducible assumption) k' (by k_upd) (by k_upd) e1' e2' (by k_ne)) ?_); intro F'' N''; (try k_sweep); (try dsimp only)))
local macro_rules | `(tactic| walk_at "call builtin:list.append") => `(tactic| (k_here; k_dflt (refine' append_LO ?F ?N ?U ?z ?_; (case F => assumption); (case N => assumption); (case U => k_upd); (case z => with_reducible assumption); intro h' F' N'; (try k_sweep))))
local macro_rules | `(tactic| walk_at "my view") => `(tactic| exact ViewAt.up (by walk_at "my im") (by with_reducible assumption))
local macro_rules | `(tactic| walk_at "my box") => `(tactic| exact BoxAt.up (by walk_at "my im") (by with_reducible assumption))
local macro_rules | `(tactic| walk_at "my letters") => `(tactic| exact LettersAt.up (by walk_at "my im") (by with_reducible assumption))
local macro_rules | `(tactic| walk_at "my uids") => `(tactic| first | exact UidsAt.up (by walk_at "my im") (by with_reducible assumption) | exact UidsAt.up (Fr.keep (by with_reducible assumption)) (by with_reducible assumption))
local macro_rules | `(tactic| walk_at "my fls") => `(tactic| exact FlagsIn.up (by walk_at "my im") (by with_reducible assumption))
local macro_rules | `(tactic| walk_at "my fl") => `(tactic| exact FlagsIn.at (FlagsIn.up (by walk_at "my im") (by with_reducible assumption)) (by with_reducible assumption))
local macro_rules | `(tactic| walk_at "my isfl") => `(tactic| exact FlagsIn.is (by with_reducible assumption) (by with_reducible assumption))
local macro_rules | `(tactic| walk_at "my letterG") => `(tactic| first | exact LettersIn.at (LettersAt.le (by with_reducible assumption)) (by with_reducible assumption) | exact LettersIn.at (by with_reducible assumption) (by with_reducible assumption))
local macro_rules | `(tactic| walk_at "my letterup") => `(tactic| exact LetterAt.up (by walk_at "my im") (by walk_at "my letterG"))
local macro_rules | `(tactic| walk_at "subscriptTail") => `(tactic| (k_here; (with_reducible show wpAny _ _ (subscriptTail _ _ (Value.ref _) (Value.int (Nat.cast _) _)) _ _ _); k_dflt (refine uids_at (by walk_at "my uids") (by with_reducible assumption) (by with_reducible assumption) ?_); intro t'))
local macro_rules | `(tactic| walk_at "call builtin:len") => `(tactic| (k_here; k_dflt (refine uids_len (by walk_at "my uids") (by with_reducible assumption) ?_)))
local macro_rules | `(tactic| walk_at "call ref") => `(tactic| (k_here; (with_reducible show wpAny _ _ (call (Value.ref 264) _) _ _ _); k_dflt (refine letter_specN (by walk_at "my base") (by walk_at "my room") (by walk_at "my box") (by walk_at "my letters") (by with_reducible assumption) (by with_reducible assumption) ?_); walk_at "my after"))
local macro_rules | `(tactic| walk_at "call ref") => `(tactic| (k_here; (with_reducible show wpAny _ _ (call (Value.ref 123) _) _ _ _); k_dflt (refine' isStale_specN ?B ?hA ?hU ?hV ?hL ?hf ?ht ?df ?dm ?hF ?hn ?hi ?_; (case B => walk_at "my base"); (case hA => walk_at "my room"); (case hU => (dsimp only [AR, Around.deeper, Around.in1]; omega)); (case hV => walk_at "my view"); (case hL => walk_at "my letterup"); (case hi => with_reducible assumption); (case ht => walk_at "my fl"); (case hf => walk_at "my isfl"); (case df => walk_at "my dict"); (case dm => walk_at "my dict"); (case hF => walk_at "my fls"); (case hn => with_reducible assumption)); walk_at "my after"))
theorem map_new {i : Nat} {st : Nat → Bool} {Y : Nat → Addr} {D : Addr} (h : st i = true) : ((List.range (i + 1)).filter st).map (fun j => Value.ref (if j = i then D else Y j)) = ((List.range i).filter st).map (fun j => Value.ref (Y j)) ++ [.ref D] := by
  rw [filter_range_succ, if_pos h, List.map_append]
  congr 1
  · refine List.map_congr_left fun j hj => ?_
    have := List.mem_range.mp (List.mem_filter.mp hj).1
    rw [if_neg (by omega)]
  · simp
theorem map_old {i : Nat} {st : Nat → Bool} {Y : Nat → Addr} (h : st i = false) : ((List.range (i + 1)).filter st).map (fun j => Value.ref (Y j)) = ((List.range i).filter st).map (fun j => Value.ref (Y j)) := by
  rw [filter_range_succ, if_neg (by rw [h]; decide), List.append_nil]
theorem kv_congr {n : Nat} {f f' : Nat → Value} (h : ∀ j, j < n → f j = f' j) : kv n f = kv n f' := by
  unfold kv
  exact List.map_congr_left fun j hj => by rw [h j (List.mem_range.mp hj)]
theorem DictO.congr {w : World} {n : Nat} {f f' : Nat → Value} {o : Obj} (d : DictO w n f o) (h : ∀ j, j < n → f j = f' j) : DictO w n f' o := by
  have e := kv_congr h
  unfold DictO at d ⊢
  rw [← e]; exact d
/-- between the turns of flag_news -/
inductive NJ (w : World) (g₁ : Heap) (ans fd md : Addr) (n i : Nat) (st : Nat → Bool) (tp va : Nat → Addr) (ms vm : Nat → Int) (fl : Nat → List Str) (uses : Bool) (m₀ m : Str → Option Value) (nw : List (Addr × Obj)) : Prop
  | mk (u : Str → Option Value) (G : Heap) (TL : List (Addr × Obj)) (of om : Obj) (e : Nat) (vt : Nat → Tok) (Y : Nat → Addr) (q0 : m = over u m₀ [Str.ofString "at", Str.ofString "letter"]) (q1 : nw = (ans, LO (((List.range i).filter st).map fun j => .ref (Y j)) e) :: (fd, of) :: (md, om) :: TL) (q2 : Im g₁ G TL) (q3 : G.get? ans = none) (q4 : G.get? fd = none) (q5 : G.get? md = none) (q6 : DictO w n (fun j => .ref (upto i st tp va j)) of) (q7 : DictO w n (fun j => .int (upto i st ms vm j) (vt j)) om) (q8 : ∀ j, j < i → st j = true → FetchAt (grow (bare g₁) g₁ G) (Y j) j (fl j) (ms j) uses) : NJ w g₁ ans fd md n i st tp va ms vm fl uses m₀ m nw
theorem flagNews_spec {w : World} {mg mb : Str → Option Value} {dep un : Nat} {fr : Option (List Env)} {gd : Option (List Code)} {s : Shared} {g : Heap} {E : Value → Shared → Prop} {Q : Value → Shared → Prop} {view box bd ll ul fd md : Addr} {nx top : Int} {uses : Bool} {n : Nat} {l tp : Nat → Addr} {ms : Nat → Int} {fl : Nat → List Str} {va : Nat → Addr} {vfl : Nat → List Str} {vm : Nat → Int} {vt : Nat → Tok} {of om : Obj}
    (B : Bs w mg mb g) (S : g.StaysIn s.heap) (hA : dep < 840) (hU : un < 4000) (hV : ViewAt g view box ul fd md uses) (hB : BoxAt g box bd ll nx top) (hL : LettersAt g ll n l tp ms) (hF : FlagsIn g n tp fl) (hul : UidsAt g ul n) (hVF : FlagsIn g n va vfl) (hof : s.heap.get? fd = some of) (gf : g.get? fd = none) (df : DictO w n (fun i => .ref (va i)) of) (lf : (fd == sysModules) = false)
    (hom : s.heap.get? md = some om) (gm : g.get? md = none) (dm : DictO w n (fun i => .int (vm i) (vt i)) om) (lm : (md == sysModules) = false) (hne : @Ne Nat fd md) (hn : n ≤ 100)
    (k : ∀ h' tk D of' om' (vt' : Nat → Tok) (Y : Nat → Addr) e, Keep [fd, md] s.heap h' → h'.get? fd = some of' → DictO w n (fun i => .ref (if stale vfl fl uses vm ms i = true then tp i else va i)) of' → h'.get? md = some om' → DictO w n (fun i => .int (if stale vfl fl uses vm ms i = true then ms i else vm i) (vt' i)) om' →
      s.heap.get? D = none → h'.get? D = some (LO (((List.range n).filter (stale vfl fl uses vm ms)).map fun j => .ref (Y j)) e) → (∀ j, j < n → stale vfl fl uses vm ms j = true → FetchAt (grow g s.heap h') (Y j) j (fl j) (ms j) uses) → Q (.ref D) { s with heap := h', toks := tk }) :
    wpAny (model PG w) (AR dep fr gd un) (call (.ref 135) [.ref view]) Q E s := by
  have hD : ∀ p ∈ [(fd, of), (md, om)], s.heap.get? p.1 = some p.2 ∧ g.get? p.1 = none := by
    intro p hp
    rcases List.mem_cons.mp hp with rfl | hp
    · exact ⟨hof, gf⟩
    · rw [List.mem_singleton] at hp; subst hp; exact ⟨hom, gm⟩
  refine wpAny_call ?_
  refine' enter (binds := [(Str.ofString "view", .ref view)]) (news := [(fd, of), (md, om)]) B S hD ?ho ?hcd ?hA ?hbind ?hloc ?h ?hcell ?hco ?hgen ?hk
  walk_at "my entry"
  case h =>
    intro g₁ L h₁ G F' N' l1 X' T'
    have hV' := hV.up G.sub
    have hB' := hB.up G.sub
    have hL' := hL.up G.sub
    have hF' := hF.up G.sub
    have hul' := hul.up G.sub
    have hVF' := hVF.up G.sub
    have hIm : Im g₁ g₁ [] := Im.nil
    walk_at "my steps"
    rename_i ans hA lA hB D' hC tkC tC uC vC kC fC rC FA NA
    clear hIm
    refine iter_range (NJ w g₁ ans fd md n · (stale vfl fl uses vm ms) tp va ms vm fl uses (fun y => if y = Str.ofString "answers" then some (Value.ref ans) else List.lookup y [(Str.ofString "view", Value.ref view)].reverse)) rfl rC (Nat.le_trans hn (by decide)) FA NA ?init ?turn ?done
    case init =>
      refine ⟨_, g₁, [], of, om, 0, vt, fun _ => 0, over_eq (fun _ _ => rfl), rfl, Im.nil, News.fresh NA (by k_mem), News.fresh NA (by k_mem), News.fresh NA (by k_mem), ?_, ?_, fun j hj => absurd hj (Nat.not_lt_zero _)⟩
      · rw [upto_zero]; exact df
      · rw [upto_zero]; exact dm
    case turn =>
      rintro i t m₁ news₁ h tk I io hi ⟨u, G', TL, of', om', e, vt', Y, rfl, rfl, hIm, ga, gfd, gmd, df', dm', hY⟩ ne F₁ N₁
      have nI1 : @Ne Nat ans I := ne _ (.head _)
      have nI2 : @Ne Nat fd I := ne _ (.tail _ (.head _))
      have nI3 : @Ne Nat md I := ne _ (.tail _ (.tail _ (.head _)))
      have nI4 : ∀ p ∈ TL, p.1 ≠ I := fun p hp => ne p (.tail _ (.tail _ (.tail _ hp)))
      have hVFi := FlagsIn.upto (i := i) (st := stale vfl fl uses vm ms) hF' hVF'
      have F₂ : Fr g₁ L h _ := F₁
      have N₂ : News g₁ L h _ := N₁
      clear F₁ N₁
      have hlen : (((List.range i).filter (stale vfl fl uses vm ms)).map fun j => Value.ref (Y j)).length ≤ 1000 := by
        have := List.length_filter_le (stale vfl fl uses vm ms) (List.range i)
        simp only [List.length_map, List.length_range] at this ⊢
        omega
      have gI : G'.get? I = none := hIm.off (m := fun _ => none) N₂ (.head _) nI4
      walk_at "my steps"
      · rename_i hst
        simp only [upto_at] at hst
        rename Fr _ _ _ _ => Fx
        rename News _ _ _ _ => Nx
        have gx := Fx.keep
        k_dflt (refine flagPairs_spec (by walk_at "my base") (by walk_at "my room") (by walk_at "my view") (by walk_at "my letterup") (hF'.is hi) (FlagsIn.at (hF'.up Fx.keep) hi) ?_)
        intro h' tk' a k' f' z'
        refine ex2k6 (Im.next (S := [(I, io), (ans, _), (fd, of'), (md, om')]) hIm Fx Nx (fa_cons (gI) (fa_cons (ga) (fa_cons (gfd) (fa_cons (gmd) (fa_nil))))) k') ?_
        intro G₂ TL₂ I₂ Fy Ny n₂ up₂ upz
        simp only [List.cons_append, List.nil_append] at Ny
        have hz := (z' (bare g₁)).up (grow_bare gx (upz _ bare_sub))
        clear Fx Nx upz z' hIm
        have fI := n₂ _ (.head _)
        have fa := n₂ _ (.tail _ (.head _))
        have ffd := n₂ _ (.tail _ (.tail _ (.head _)))
        have fmd := n₂ _ (.tail _ (.tail _ (.tail _ (.head _))))
        dsimp only at fI fa ffd fmd
        walk_at "my steps"
        rename_i D' hA' l1' hB' hC' tk'' of'' om'' t'' kN e1 d1 e2 d2 Fz Nz
        obtain ⟨G₃, TL₃, I₃, N₃, n₃, up₃, gt⟩ := I₂.take (S := [(I, io), (ans, _), (fd, of''), (md, om'')]) Fz Nz (fa_cons (fI) (fa_cons (fa) (fa_cons (ffd) (fa_cons (fmd) (fa_nil))))) (by k_all)
        simp only [List.cons_append, List.nil_append] at N₃
        have f3I := n₃ _ (.head _)
        have f3a := n₃ _ (.tail _ (.head _))
        have f3f := n₃ _ (.tail _ (.tail _ (.head _)))
        have f3m := n₃ _ (.tail _ (.tail _ (.tail _ (.head _))))
        dsimp only at f3I f3a f3f f3m
        have hst' : stale vfl fl uses vm ms i = true := hst
        refine ItEnd.intro Fz N₃ (by k_all) ⟨_, G₃, TL₃, of'', om'', e + 1, fun j => if j = i then t'' else vt' j, fun j => if j = i then D' else Y j, over_eq (fun y hy => by simp only [List.mem_cons, not_or] at hy; simp [over, hy]), ?_, I₃, f3a, f3f, f3m, ?_, ?_, fun j hj sj => ?_⟩
        · rw [map_new hst']
        · exact d1.congr fun j _ => by rw [upto_yes hst']; dsimp only; split <;> rfl
        · exact d2.congr fun j _ => by rw [upto_yes hst']; dsimp only; split <;> rfl
        · (try dsimp only)
          by_cases q : j = i
          · subst q
            rw [if_pos rfl]
            exact ⟨a, _, _, ⟨_, grow_new gt (News.fresh Nz (.head _))⟩, hz.up (grow_mono up₃)⟩
          · rw [if_neg q]
            have gm : G'.StaysIn G₃ := fun _ _ e => up₃ _ _ (up₂ _ _ e)
            exact (hY j (by omega) sj).up (grow_mono gm)
      · rename_i hst
        simp only [upto_at] at hst
        refine ItEnd.intro (by assumption) (by assumption) (by k_all) ?_
        refine ⟨_, G', TL, of', om', e, vt', Y, over_eq (fun y hy => by simp only [List.mem_cons, not_or] at hy; simp [over, hy]), ?_, hIm, ga, gfd, gmd, ?_, ?_, fun j hj sj => hY j ?_ sj⟩
        · rw [map_old hst]
        · rw [upto_no hst]; exact df'
        · rw [upto_no hst]; exact dm'
        · rcases Nat.lt_succ_iff_lt_or_eq.mp hj with q | q
          · exact q
          · rw [q, stale, hst] at sj; cases sj
    case done =>
      rintro m₁ news₁ h tk ⟨u, G', TL, of', om', e, vt', Y, rfl, rfl, hIm, ga, gfd, gmd, df', dm', hY⟩ F₁ N₁
      have F₂ : Fr g₁ L h _ := F₁
      have N₂ : News g₁ L h _ := N₁
      clear F₁ N₁
      walk_at "my steps"
      show Q (Value.ref ans) _
      refine k _ _ ans of' om' vt' Y e (G.keep F₂) (N₂.get (by k_mem)) (df'.congr fun j hj => ?_) (N₂.get (by k_mem)) (dm'.congr fun j hj => ?_) (G.fresh (by k_all) (N₂.fresh (by k_mem))) (N₂.get (by k_mem)) fun j hj sj => (hY j hj sj).up fun a o q => ?_
      · simp only [upto, hj, true_and]
      · simp only [upto, hj, true_and]
      · have q1 : G'.get? a = some o := by rcases grow_is bare_sub q with z | z; (rw [bare_none] at z; cases z); exact grow_sub _ _ q
        have q2 : g₁.get? a = none := by rcases grow_is bare_sub q with z | z; (rw [bare_none] at z; cases z); exact z
        refine grow_new (hIm.stays F₂ N₂ (by walk_at "my sub") _ _ q1) (G.fresh (fun p hp z => ?_) q2)
        simp only [List.mem_cons, List.not_mem_nil, or_false] at hp
        rcases hp with rfl | rfl
        · rw [← z, gfd] at q1; cases q1
        · rw [← z, gmd] at q1; cases q1
/-! dict(a list of pairs) -/
theorem df_entry_loop : entryFor table "dict.update.loop" = some Builtin.«dict.update.loop» := entryFor_of_tree (by kernel_rfl)
theorem df_plain_loop : plainId "dict.update.loop" = true := by decide +kernel
theorem df_keys_miss : typeLookup (.type "list") (Str.ofString "keys") = pure none := am_miss_of_fast (by decide +kernel)
section
variable {prog : Program} {w : World} {A : Around} {E : Value → Shared → Prop} {s : Shared}
theorem df_nokeys {a : Addr} {xs : Array Value} {k : Nat} {Q : Option Value → Shared → Prop} (hx : s.heap.get? a = some { cls := .type "list", dict := none, data := .seq xs k, slots := #[] }) (hA : A.handled = none)
    (h : ∀ h' tk, s.heap.StaysIn h' → Q none { s with heap := h', toks := tk }) : wpAny (model prog w) A (getAttr? (.ref a) (Str.ofString "keys")) Q E s := by
  obtain ⟨hp, g, d, tk, os⟩ := s
  have hT : ∀ tk', (⟨hp, g, d, tk', os⟩ : Shared).TypeIs (.ref a) "list" := fun _ => ⟨_, hx, rfl⟩
  have f1 := sub_AttributeError
  have f3 := F.slot_list_getattribute.lookup
  have f4 := F.slot_list_getattribute.bind (.ref a)
  have f5 := am_list_getattr_none
  unfold getAttr? getAttrBy? getAttrBy
  repeat (any_goals (first | assumption | exact hT _ | ((with_reducible show wpAny _ _ (call (Value.builtin "list.__getattribute__") _ _) _ _ _); refine call_meets F.slot_list_getattribute (hT _) am_entry_list_getattribute (F.args_list_getattribute_2 _ _) (meets_getattribute_miss_list a xs k #[] _ _ df_keys_miss (by decide +kernel) (by decide +kernel)) ⟨hx, hA, fun h' tk' e hx' => ?_⟩) | wp_step))
  obtain ⟨t', u', he⟩ := hx'.there
  show wpAny _ _ (getattributeRaised _ _ _ _ _ _ _) _ _ _
  unfold getattributeRaised
  repeat (any_goals (first | assumption | wp_step))
  exact h _ _ hx'.keeps
end
section
variable {w : World} {A : Around} {E : Value → Shared → Prop} {R : Result → Shared → Prop}
theorem df_loop {I l d : Addr} {n : Nat} {Y : Nat → Addr} {f : Nat → Value} (hh : A.handled = none) (hIl : l ≠ I) (hdI : d ≠ I) (hdl : d ≠ l) (hdY : ∀ j, j < n → Y j ≠ d ∧ Y j ≠ I) (hn : n ≤ 100) :
    ∀ (k i : Nat) (c : Int) (s : Shared), n - i = k → i ≤ n → s.heap.IsListIter I l i → s.heap.IsList l ((List.range n).map fun j => Value.ref (Y j)).toArray → (∀ j, j < n → ∃ t, TupAt s.heap (Y j) [.int ((j : Int) + 1) t, f j]) →
      s.heap.DictOf (intKind PG w) d (kv i f) → (∀ h' tk, (∀ b o, b ≠ d → b ≠ I → s.heap.get? b = some o → h'.get? b = some o) → h'.DictOf (intKind PG w) d (kv n f) → R (.ok (.ret .none)) { s with heap := h', toks := tk }) →
      codeAny (model PG w) A (.builtin "dict.update.loop" ⟨[.ref d, .ref I, rawInt c, .none], []⟩) R s := by
  have W := Walks.list (prog := PG) (w := w) (A := A.in1) hh I l hIl ((List.range n).map fun j => Value.ref (Y j)).toArray
  have hsz : ((List.range n).map fun j => Value.ref (Y j)).toArray.size = n := by simp
  rw [hsz] at W
  intro k
  induction k with
  | zero =>
    intro i c s hk hi hst hl hY hd hR
    obtain rfl : i = n := by omega
    refine codeAny_builtin df_entry_loop ?_
    rw [Around.under_plainId df_plain_loop _]
    show wpAny _ A.in1 (pyNext (.ref I) >>= _) _ _ s
    refine wpAny_bind (W.done s _ _ ⟨hst, hl⟩ fun h' tk hk' => ?_)
    show wpAny _ A.in1 (Builtin.Dict.addKeywords d [] >>= _) _ _ _
    refine wpAny_bind (wpAny_pure ?_)
    refine wpAny_pure (hR h' tk (fun b o _ n2 e => hk' b o (by simpa using n2) e) ?_)
    obtain ⟨o, ho, r⟩ := Heap.dictOf_iff.mp hd
    exact Heap.dictOf_iff.mpr ⟨o, hk' _ _ (by simpa using hdI) ho, r⟩
  | succ k ih =>
    intro i c s hk hi hst hl hY hd hR
    have hlt : i < n := by omega
    refine codeAny_builtin df_entry_loop ?_
    rw [Around.under_plainId df_plain_loop _]
    show wpAny _ A.in1 (pyNext (.ref I) >>= _) _ _ s
    refine wpAny_bind (W.item i s _ _ hlt ⟨hst, hl⟩ fun v h₁ tk hv hst₁ hk₁ => ?_)
    obtain ⟨-, rfl⟩ := range_item hv
    obtain ⟨t, m, ht⟩ := hY i hlt
    have ht₁ := hk₁ _ _ (by simpa using (hdY i hlt).2) ht
    have hd₁ : h₁.DictOf (intKind PG w) d (kv i f) := by
      obtain ⟨o, ho, r⟩ := Heap.dictOf_iff.mp hd
      exact Heap.dictOf_iff.mpr ⟨o, hk₁ _ _ (by simpa using hdI) ho, r⟩
    refine wpAny_bind (wpAny_holding (wpAny_bind (wpAny_tryCatch ?_)))
    show wpAny _ A.in1 (Builtin.Dict.pairItems (.ref (Y i))) _ _ { s with heap := h₁, toks := tk }
    unfold Builtin.Dict.pairItems
    refine wpAny_bind (wpAny_typeOf (s := { s with heap := h₁, toks := tk }) ⟨_, ht₁, rfl⟩ ?_)
    rw [if_pos (by decide)]
    refine wpAny_bind (wpAny_seqItems (s := { s with heap := h₁, toks := tk }) ht₁ rfl (wpAny_pure ?_))
    show wpAny _ A.in1 (holding [Value.int ((i : Int) + 1) t, f i] (dictSet d (.int ((i : Int) + 1) t) (f i))) _ _ _
    refine wpAny_holding (wpAny_dictSet_pairs (s := { s with heap := h₁, toks := tk }) (knd := intKind PG w) (k := (i : Int) + 1) (intKind_is PG w _ _) hd₁ (fun h₂ hd₂ hs₂ => ?_) (by rw [kv_length, sizeLine_eq]; omega))
    rw [kv_add rfl] at hd₂
    have hd₃ : h₂.DictOf (intKind PG w) d (kv (i + 1) f) := by
      rw [kv_congr (f' := fun j => if j = i then f i else f j) fun j hj => by split <;> simp_all]; exact hd₂
    refine wpAny_pure ⟨plainId_quiet df_plain_loop _, ih (i + 1) (c + 1) _ (by omega) hlt ?_ ?_ ?_ hd₃ ?_⟩
    · exact hst₁.1.at fun o e => (hs₂.2 _ (Ne.symm hdI)).trans e
    · exact hst₁.2.at fun o e => (hs₂.2 _ (Ne.symm hdl)).trans e
    · intro j hj
      obtain ⟨t', m', e'⟩ := hY j hj
      exact ⟨t', m', (hs₂.2 _ (hdY j hj).1).trans (hk₁ _ _ (by simpa using (hdY j hj).2) e')⟩
    · intro h' tk' hkk hdn
      exact hR h' tk' (fun b o n1 n2 e => hkk b o n1 n2 ((hs₂.2 _ n1).trans (hk₁ _ _ (by simpa using n2) e))) hdn
theorem dict_from {s : Shared} {l : Addr} {n e : Nat} {Y : Nat → Addr} {f : Nat → Value} {Q : Value → Shared → Prop} (hh : A.handled = none) (hn : n ≤ 100) (hlim : s.heap.NoLimit)
    (hl : s.heap.get? l = some (LO ((List.range n).map fun j => .ref (Y j)) e)) (hY : ∀ j, j < n → ∃ t, TupAt s.heap (Y j) [.int ((j : Int) + 1) t, f j])
    (h : ∀ D h' tk o, s.heap.StaysIn h' → s.heap.get? D = none → h'.get? D = some o → DictO w n f o → (D == sysModules) = false → Q (.ref D) { s with heap := h', toks := tk }) :
    wpAny (model PG w) A (call (.type "dict") [.ref l]) Q E s := by
  refine callType_codes (Q₁ := fun obj s₁ => obj = .ref s.heap.objs.size ∧ s₁ = { s with heap := s.heap.push { cls := .type "dict", data := .dict #[] } }) F.kt_called_dict (F.kt_typeCall_dict_1 _) F.entry_dict_init (kt_code_dict_new _ ⟨rfl, rfl⟩) ?_
  rintro obj s₁ ⟨rfl, rfl⟩
  have hnew : (s.heap.push { cls := .type "dict", data := .dict #[] }).DictOf (intKind PG w) s.heap.objs.size [] := Heap.DictOf.new s.heap
  have hl' : (s.heap.push { cls := .type "dict", data := .dict #[] }).get? l = some (LO ((List.range n).map fun j => .ref (Y j)) e) := Heap.get?_push_of_some _ hl
  have llt := Heap.lt_size hl
  refine ⟨hnew.typeIs, F.args_dict_init_2 _ _, ?_⟩
  unfold Builtin.«dict.__init__»
  refine wpAny_bind ?_
  unfold Builtin.Dict.selfAndRest
  refine wpAny_bind (wpAny_notOrdered_dict hnew.typeIs ?_)
  show wpAny _ _ (pure (s.heap.objs.size, [Value.ref l])) _ _ _
  refine wpAny_pure ?_
  show wpAny _ _ (Builtin.Dict.updateFrom "dict.__init__" s.heap.objs.size (.ref l) [] .none) _ _ _
  unfold Builtin.Dict.updateFrom
  refine wpAny_bind (wpAny_typeOf (T := "list") ⟨_, hl', rfl⟩ ?_)
  rw [if_pos (by decide)]
  refine wpAny_bind (df_nokeys hl' hh fun h₁ tk₁ k₁ => ?_)
  rw [if_pos (by decide)]
  refine wpAny_bind (wpAny_rule ?_)
  have d₁ : h₁.DictOf (intKind PG w) s.heap.objs.size [] := by
    obtain ⟨o, ho, r⟩ := Heap.dictOf_iff.mp hnew
    exact Heap.dictOf_iff.mpr ⟨o, k₁ _ _ ho, r⟩
  have hl₁ : h₁.IsList l ((List.range n).map fun j => Value.ref (Y j)).toArray := ⟨_, k₁ _ _ hl', rfl, e, rfl⟩
  have st₁ : s.heap.StaysIn h₁ := fun b o q => k₁ _ _ (Heap.get?_push_of_some _ q)
  have hsI : s.heap.objs.size < h₁.objs.size := by
    obtain ⟨o, ho, _⟩ := Heap.dictOf_iff.mp d₁
    exact Heap.lt_size ho
  have up : ∀ (o : Obj) b x, s.heap.get? b = some x → (h₁.push o).get? b = some x := fun o b x q => Heap.get?_push_of_some _ (st₁ _ _ q)
  refine wpAny_bind (wpAny_pyIter_list hl₁ ?_)
  refine wpAny_pure ⟨plainId_quiet df_plain_loop _, ?_⟩
  refine df_loop (A := A.in1) (I := h₁.objs.size) (d := s.heap.objs.size) (Y := Y) (f := f) hh (Nat.ne_of_lt (Nat.lt_trans llt hsI)) (Nat.ne_of_lt hsI) (Nat.ne_of_gt llt) (fun j hj => ?_) hn n 0 0 _ (Nat.sub_zero n) (Nat.zero_le _) ⟨_, Heap.get?_push_size _ rfl, rfl, rfl⟩ (hl₁.at fun o q => Heap.get?_push_of_some _ q) (fun j hj => ?_) (d₁.push _) (fun h' tk hk hd => ?_)
  · obtain ⟨t, m, ht⟩ := hY j hj
    have := Heap.lt_size ht
    exact ⟨Nat.ne_of_lt this, Nat.ne_of_lt (Nat.lt_trans this hsI)⟩
  · obtain ⟨t, m, ht⟩ := hY j hj
    exact ⟨t, m, up _ _ _ ht⟩
  · obtain ⟨o, ho, r⟩ := Heap.dictOf_iff.mp hd
    refine ⟨rfl, h _ h' tk o (fun b x q => hk b x ?_ ?_ (up _ _ _ q)) size_none ho r ?_⟩
    · exact Nat.ne_of_lt (Heap.lt_size q)
    · exact Nat.ne_of_lt (Nat.lt_trans (Heap.lt_size q) hsI)
    · have := modules_low hlim
      simp only [beq_eq_false_iff_ne, ne_eq]
      exact Nat.ne_of_gt this
end
section PartMade
/-- the flags of the law's menu -/
def flOf (i : Nat) : List Str := if i = 0 then [Str.ofString "x"] else if i = 1 then [] else if i = 2 then [Str.ofString "\\Seen"] else [Str.ofString "\\Seen", Str.ofString "x"]
theorem flOf_is (i : Nat) : IsFl (flOf i) := by
  unfold flOf IsFl
  split
  · exact .inl rfl
  · split
    · exact .inr (.inl rfl)
    · split
      · exact .inr (.inr (.inl rfl))
      · exact .inr (.inr (.inr rfl))
def FlsAt (h : Heap) (D : Addr) (a : Nat → Addr) : Prop := (∃ e, h.get? D = some (LO ((List.range 4).map fun i => .ref (a i)) e)) ∧ ∀ i, i < 4 → FlAt h (a i) (flOf i)
theorem FlsAt.up {h h' : Heap} {D : Addr} {a : Nat → Addr} (k : h.StaysIn h') : FlsAt h D a → FlsAt h' D a := fun ⟨⟨e, x⟩, z⟩ => ⟨⟨e, k _ _ x⟩, fun i hi => (z i hi).up k⟩
theorem lawFlags_spec {w : World} {mg mb : Str → Option Value} {dep un : Nat} {fr : Option (List Env)} {gd : Option (List Code)} {s : Shared} {E : Value → Shared → Prop} {Q : Value → Shared → Prop}
    (B : Bs w mg mb s.heap) (hA : dep < 890)
    (k : ∀ h' tk D a, s.heap.StaysIn h' → s.heap.get? D = none → (∀ g₀, FlsAt (grow g₀ s.heap h') D a) → Q (.ref D) { s with heap := h', toks := tk }) :
    wpAny (model PG w) (AR dep fr gd un) (call (.ref 323) []) Q E s := by
  refine wpAny_call ?_
  refine' enter (binds := []) (news := []) B (fun _ _ e => e) (fun _ hp => nomatch hp) ?ho ?hcd ?hA ?hbind ?hloc ?h ?hcell ?hco ?hgen ?hk
  walk_at "my entry"
  case h =>
    intro g₁ L h₁ G F' N' l1 X' T'
    walk_at "my steps"
    rename_i D1 h2 l2 D2 h3 l3 D3 h4 l4 D4 h5 l5 D h6 F6 N6 l6
    have n1 := G.new N6 (.head _)
    have n4 := G.new N6 (.tail _ (.head _))
    have n3 := G.new N6 (.tail _ (.tail _ (.head _)))
    have n2 := G.new N6 (.tail _ (.tail _ (.tail _ (.head _))))
    have n0 := G.new N6 (.tail _ (.tail _ (.tail _ (.tail _ (.head _)))))
    refine k _ _ D (fun i => if i = 0 then D1 else if i = 1 then D2 else if i = 2 then D3 else D4) (G.stays F6) n1 fun g₀ => ⟨⟨0, grow_new (N6.get (.head _)) n1⟩, fun i hi => ?_⟩
    rcases i with _ | _ | _ | _ | i
    · exact ⟨fun _ => _, _, grow_new (N6.get (.tail _ (.tail _ (.tail _ (.tail _ (.head _)))))) n0⟩
    · exact ⟨fun _ => 0, _, grow_new (N6.get (.tail _ (.tail _ (.tail _ (.head _))))) n2⟩
    · exact ⟨fun _ => _, _, grow_new (N6.get (.tail _ (.tail _ (.head _)))) n3⟩
    · exact ⟨fun i => if i = 0 then _ else _, _, grow_new (N6.get (.tail _ (.head _))) n4⟩
    · omega
theorem BoxD.mk {ll : Addr} {nx top : Int} {nm vl fl gn : Value} {a1 a2 t0 t1 t2 t3 t4 t5 t6 : Tok} {h0 h1 h2 h3 h4 h5 h6 : Int} {n : Nat} : BoxD ll nx top (dictOf [⟨h0, .str (Str.ofString "name") t0, nm⟩, ⟨h1, .str (Str.ofString "validity") t1, vl⟩, ⟨h2, .str (Str.ofString "next_uid") t2, .int nx a1⟩, ⟨h3, .str (Str.ofString "top") t3, .int top a2⟩, ⟨h4, .str (Str.ofString "floor") t4, fl⟩, ⟨h5, .str (Str.ofString "letters") t5, .ref ll⟩, ⟨h6, .str (Str.ofString "gone") t6, gn⟩] n) :=
  ⟨fun j => [h0, h1, h2, h3, h4, h5, h6].getD j 0, fun j => [t0, t1, t2, t3, t4, t5, t6].getD j 0, n, nm, vl, a1, a2, fl, gn, rfl⟩
theorem box_new {w : World} {mg mb : Str → Option Value} {dep un : Nat} {fr : Option (List Env)} {gd : Option (List Code)} {s : Shared} {E : Value → Shared → Prop} {Q : Value → Shared → Prop} {tb ti : Tok}
    (B : Bs w mg mb s.heap) (hA : dep < 880)
    (k : ∀ h' tk x bd ll o, s.heap.StaysIn h' → s.heap.get? x = none → s.heap.get? bd = none → s.heap.get? ll = none → h'.get? x = some (instObj 277 bd) → h'.get? bd = some o → BoxD ll 1 1 o → h'.get? ll = some (LO [] 0) → @Ne Nat x bd → @Ne Nat x ll → @Ne Nat bd ll → Q (.ref x) { s with heap := h', toks := tk }) :
    wpAny (model PG w) (AR dep fr gd un) (call (.ref 277) [.str (Str.ofString "b") tb, .int 1 ti]) Q E s := by
  have X := B.k
  have hs0 : s.heap.get? s.heap.objs.size = none := size_none
  have hs1 : s.heap.get? (s.heap.objs.size + 1) = none := by
    cases e : s.heap.get? (s.heap.objs.size + 1) with
    | none => rfl
    | some o => exact absurd (Heap.lt_size e) (Nat.not_lt.mpr (Nat.le_succ _))
  have hst : s.heap.StaysIn ((s.heap.push emptyDict).push (instObj 277 s.heap.objs.size)) := fun b o e => Heap.get?_push_of_some _ (Heap.get?_push_of_some _ e)
  refine' wpAny_call (make_core (makes_of X ?m1) (looks_findIn X ?m2) (fun self => bind_fn X self ?m3) (.inl rfl) ?m4)
  case m1 => k_is
  case m2 => k_is
  case m3 => k_is
  case m4 =>
    refine' enter (s := { s with heap := (s.heap.push emptyDict).push (instObj 277 s.heap.objs.size) }) (binds := [(Str.ofString "self", .ref (s.heap.objs.size + 1)), (Str.ofString "name", .str (Str.ofString "b") tb), (Str.ofString "validity", .int 1 ti)]) (news := [(s.heap.objs.size + 1, instObj 277 s.heap.objs.size), (s.heap.objs.size, emptyDict)]) B hst ?hD ?ho ?hcd ?hA ?hbind ?hloc ?h ?hcell ?hco ?hgen ?hk
    case hA => (simp only [depth_under_make]; exact Nat.lt_of_lt_of_le (Nat.succ_lt_succ hA) (by decide))
    walk_at "my entry"
    case hD =>
      intro p hp
      rcases List.mem_cons.mp hp with rfl | hp
      · exact ⟨by have := Heap.get?_push_size (s.heap.push emptyDict) (o := instObj 277 s.heap.objs.size) rfl; rwa [Heap.size_push] at this, hs1⟩
      · rw [List.mem_singleton] at hp
        subst hp
        exact ⟨Heap.get?_push_of_some _ (Heap.get?_push_size _ rfl), hs0⟩
    case h =>
      intro g₁ L h₁ G F' N' l1 X' T'
      k_lt l1
      have l2 : @LT.lt Nat _ s.heap.objs.size (s.heap.objs.size + 1) := Nat.lt_succ_self _
      generalize hdx : s.heap.objs.size = dx at *
      generalize hx : dx + 1 = x at *
      walk_at "my steps"
      rename_i ll hB l3 hC tkC gn hD l4 hE FE NE
      have frn : ∀ a o, (a, o) ∈ [(gn, PySem.W.listOf #[] 0), (ll, PySem.W.listOf #[] 0)] → @Ne Nat x a → @Ne Nat dx a → s.heap.get? a = none := fun a o hm n1 n2 => by
        have hm' := (NE (a, o) (List.mem_append_left _ hm)).2.2
        exact none_sub hst (G.fresh (fun p hp => by
          rcases List.mem_cons.mp hp with rfl | hp
          · exact n1
          · rw [List.mem_singleton] at hp; subst hp; exact n2) hm')
      refine ⟨rfl, ?_⟩
      show Q (.ref x) _
      refine k _ _ x dx ll _ (fun b o e => FE.keep _ _ (G.all b o (hst b o e) fun p hp q => ?_)) hs1 hs0 (frn ll _ (.tail _ (.head _)) (by k_ne) (by k_ne)) (NE.get (by k_mem)) (NE.get (by k_mem)) BoxD.mk (NE.get (by k_mem)) (by k_ne) (by k_ne) (by k_ne)
      rcases List.mem_cons.mp hp with rfl | hp
      · rw [← q, hs1] at e; cases e
      · rw [List.mem_singleton] at hp
        subst hp
        rw [← q, hs0] at e; cases e
theorem ViewAt.mk {h : Heap} {v d box ul fd md : Addr} {ro : Value} {uses : Bool} {t0 t1 t2 t3 t4 t5 t6 : Tok} {h0 h1 h2 h3 h4 h5 h6 : Int} {n : Nat} (e1 : h.get? v = some (instObj 98 d))
    (e2 : h.get? d = some (dictOf [⟨h0, .str (Str.ofString "box") t0, .ref box⟩, ⟨h1, .str (Str.ofString "is_readonly") t1, ro⟩, ⟨h2, .str (Str.ofString "uses_modseq") t2, .bool uses⟩, ⟨h3, .str (Str.ofString "uses_vanished") t3, .bool false⟩, ⟨h4, .str (Str.ofString "uids") t4, .ref ul⟩, ⟨h5, .str (Str.ofString "flags") t5, .ref fd⟩, ⟨h6, .str (Str.ofString "modseqs") t6, .ref md⟩] n)) : ViewAt h v box ul fd md uses :=
  ⟨d, fun j => [h0, h1, h2, h3, h4, h5, h6].getD j 0, fun j => [t0, t1, t2, t3, t4, t5, t6].getD j 0, n, ro, e1, rfl, rfl, e2⟩
local macro_rules | `(tactic| walk_at "newTuple") => `(tactic| (k_here; k_dflt (refine new_tuple ?_ (by simp)); intro D' h' k' f' g'; (have F'' := Fr.keeps (by with_reducible assumption) k'); (try k_sweep); (try dsimp only)))
theorem view_new {w : World} {mg mb : Str → Option Value} {dep un : Nat} {fr : Option (List Env)} {gd : Option (List Code)} {s : Shared} {E : Value → Shared → Prop} {Q : Value → Shared → Prop} {box bd ll : Addr} {nx top : Int} {n : Nat} {l tp : Nat → Addr} {ms : Nat → Int} {uses : Bool}
    (B : Bs w mg mb s.heap) (hA : dep < 860) (hB : BoxAt s.heap box bd ll nx top) (hL : LettersAt s.heap ll n l tp ms) (hn : n ≤ 100)
    (k : ∀ h' tk x dx ul fd md od oul of om (vt : Nat → Tok), s.heap.StaysIn h' → (∀ p ∈ [(x, instObj 98 dx), (dx, od), (ul, oul), (fd, of), (md, om)], s.heap.get? p.1 = none ∧ h'.get? p.1 = some p.2) → (∀ g : Heap, g.get? x = some (instObj 98 dx) → g.get? dx = some od → ViewAt g x box ul fd md uses) → (∀ g : Heap, g.get? ul = some oul → UidsAt g ul n) → DictO w n (fun i => .ref (tp i)) of → DictO w n (fun i => .int (ms i) (vt i)) om →
      (fd == sysModules) = false → (md == sysModules) = false → (@Ne Nat x fd ∧ @Ne Nat x md ∧ @Ne Nat dx fd ∧ @Ne Nat dx md ∧ @Ne Nat ul fd ∧ @Ne Nat ul md ∧ @Ne Nat fd md) → Q (.ref x) { s with heap := h', toks := tk }) :
    wpAny (model PG w) (AR dep fr gd un) (call (.ref 98) [.ref box, .bool false, .bool uses, .bool false]) Q E s := by
  have X := B.k
  have hs0 : s.heap.get? s.heap.objs.size = none := size_none
  have hs1 : s.heap.get? (s.heap.objs.size + 1) = none := by
    cases e : s.heap.get? (s.heap.objs.size + 1) with
    | none => rfl
    | some o => exact absurd (Heap.lt_size e) (Nat.not_lt.mpr (Nat.le_succ _))
  have hst : s.heap.StaysIn ((s.heap.push emptyDict).push (instObj 98 s.heap.objs.size)) := fun b o e => Heap.get?_push_of_some _ (Heap.get?_push_of_some _ e)
  refine' wpAny_call (make_core (makes_of X ?m1) (looks_findIn X ?m2) (fun self => bind_fn X self ?m3) (.inl rfl) ?m4)
  case m1 => k_is
  case m2 => k_is
  case m3 => k_is
  case m4 =>
    refine' enter (s := { s with heap := (s.heap.push emptyDict).push (instObj 98 s.heap.objs.size) }) (binds := [(Str.ofString "self", .ref (s.heap.objs.size + 1)), (Str.ofString "box", .ref box), (Str.ofString "is_readonly", .bool false), (Str.ofString "uses_modseq", .bool uses), (Str.ofString "uses_vanished", .bool false)]) (news := [(s.heap.objs.size + 1, instObj 98 s.heap.objs.size), (s.heap.objs.size, emptyDict)]) B hst ?hD ?ho ?hcd ?hA ?hbind ?hloc ?h ?hcell ?hco ?hgen ?hk
    case hA => (simp only [depth_under_make]; exact Nat.lt_of_lt_of_le (Nat.succ_lt_succ hA) (by decide))
    (case ho => k_is); (case hcd => k_is); (case hbind => exact binds_K (B.k.keeps hst) rfl (by k_is) rfl rfl rfl); (case hloc => exact locs rfl); (case hcell => decide); (case hco => exact rfl); (case hgen => exact rfl); (case hk => exact rfl)
    case hD =>
      intro p hp
      rcases List.mem_cons.mp hp with rfl | hp
      · exact ⟨by have := Heap.get?_push_size (s.heap.push emptyDict) (o := instObj 98 s.heap.objs.size) rfl; rwa [Heap.size_push] at this, hs1⟩
      · rw [List.mem_singleton] at hp
        subst hp
        exact ⟨Heap.get?_push_of_some _ (Heap.get?_push_size _ rfl), hs0⟩
    case h =>
      intro g₁ L h₁ G F' N' l1 X' T'
      k_lt l1
      have l2 : @LT.lt Nat _ s.heap.objs.size (s.heap.objs.size + 1) := Nat.lt_succ_self _
      have hB' := hB.up G.sub
      have hL' := hL.up G.sub
      generalize hdx : s.heap.objs.size = dx at *
      generalize hx : dx + 1 = x at *
      walk_at "my steps"
      rename Fr _ _ _ _ => Fc
      rename News _ _ _ _ => Nc
      rename_i ul nU TU kU fU gU lU hU
      have X1 := X'.keeps Fc.keep
      have T1 := T'.keeps Fc.keep
      have hL1 := hL'.up Fc.keep
      refine cp_map (l := ll) (items := ((List.range n).map fun i => Value.ref (l i)).toArray) (.inl hL1.isList) rfl (by simp; omega) (by decide) rfl rfl (fun i y h => ∃ a, y = .ref a ∧ ∃ t, TupAt h a [.int ((i : Int) + 1) t, .ref (tp i)]) (fun i y h h' kk ⟨a, e, t, z⟩ => ⟨a, e, t, z.up kk⟩) ?_ ?_
      · intro C i v h tk m hv F₂ hm
        obtain ⟨hi, rfl⟩ := range_item hv
        walk_at "my steps"
        rename_i D' h' k' f' g' F''
        exact EltEnd.intro k' ⟨D', rfl, _, 0, grow_new g' f'⟩
      · intro al1 h' tk n' Y hs hal hget hY
        clear X1 T1 hL1
        have e : ((List.range n).map fun i => Value.ref (l i)).toArray.size = n := by simp
        rw [e] at hget hY
        obtain ⟨Z, hZ, eZ⟩ := choose_refs hY
        rw [eZ] at hget
        have F₁ := Fr.keeps Fc hs
        have N₁ := News.grown Nc hs
        clear Fc Nc hY
        walk1
        k_dflt (refine dict_from rfl hn (Bs.at X' T' F₁).t.nolimit hget (fun j hj => hZ j hj) ?_)
        intro fd h'' tk'' of k' f' g' df lof
        have l3 := newsNe N₁ f'
        simp only [AllNe, and_true] at l3
        have F₂ := Fr.keeps F₁ k'
        have N₂ := newsAdd F₁ N₁ k' f' g'
        clear F₁ N₁ hget hZ hs hal eZ
        walk_at "my steps"
        rename Fr _ _ _ _ => Fc
        rename News _ _ _ _ => Nc
        have X2 := X'.keeps Fc.keep
        have T2 := T'.keeps Fc.keep
        have hL2 := hL'.up Fc.keep
        refine cp_map (l := ll) (items := ((List.range n).map fun i => Value.ref (l i)).toArray) (.inl hL2.isList) rfl (by simp; omega) (by decide) rfl rfl (fun i y h => ∃ a, y = .ref a ∧ ∃ t tm, TupAt h a [.int ((i : Int) + 1) t, .int (ms i) tm]) (fun i y h h' kk ⟨a, e, t, tm, z⟩ => ⟨a, e, t, tm, z.up kk⟩) ?_ ?_
        · intro C i v h tk m hv F₂ hm
          obtain ⟨hi, rfl⟩ := range_item hv
          walk_at "my steps"
          rename_i D' h' k' f' g' F''
          exact EltEnd.intro k' ⟨D', rfl, _, _, 0, grow_new g' f'⟩
        · intro al2 h' tk n' Y hs hal hget hY
          clear X2 T2 hL2
          have e : ((List.range n).map fun i => Value.ref (l i)).toArray.size = n := by simp
          rw [e] at hget hY
          obtain ⟨Z, hZ, eZ⟩ := choose_refs hY
          rw [eZ] at hget
          have hT : ∀ i, ∃ tm, i < n → ∃ t, TupAt h' (Z i) [.int ((i : Int) + 1) t, .int (ms i) tm] := fun i => by
            by_cases hi : i < n
            · obtain ⟨t, tm, z⟩ := hZ i hi; exact ⟨tm, fun _ => ⟨t, z⟩⟩
            · exact ⟨0, fun z => absurd z hi⟩
          obtain ⟨vt, hvt⟩ := Classical.axiomOfChoice hT
          have F₁ := Fr.keeps Fc hs
          have N₁ := News.grown Nc hs
          clear Fc Nc hY
          walk1
          k_dflt (refine dict_from (f := fun i => .int (ms i) (vt i)) rfl hn (Bs.at X' T' F₁).t.nolimit hget (fun j hj => hvt j hj) ?_)
          intro md h'' tk'' om k' f' g' dm lom
          have l4 := newsNe N₁ f'
          simp only [AllNe, and_true] at l4
          have F₂ := Fr.keeps F₁ k'
          have N₂ := newsAdd F₁ N₁ k' f' g'
          clear F₁ N₁ hget hZ hs hal eZ
          walk_at "my steps"
          rename Fr _ _ _ _ => FE
          rename News _ _ _ _ => NE
          have frn : ∀ a, g₁.get? a = none → @Ne Nat x a → @Ne Nat dx a → s.heap.get? a = none := fun a hm n1 n2 => none_sub hst (G.fresh (fun p hp => by
            rcases List.mem_cons.mp hp with rfl | hp
            · exact n1
            · rw [List.mem_singleton] at hp; subst hp; exact n2) hm)
          refine ⟨rfl, ?_⟩
          show Q (.ref x) _
          refine' k _ _ x dx ul fd md _ _ of om vt (fun b o e => FE.keep _ _ (G.all b o (hst b o e) fun p hp q => ?K)) ?B ?C ?D df dm lof lom ⟨by k_ne, by k_ne, by k_ne, by k_ne, by k_ne, by k_ne, by k_ne⟩
          case K =>
            rcases List.mem_cons.mp hp with rfl | hp
            · rw [← q, hs1] at e; cases e
            · rw [List.mem_singleton] at hp
              subst hp
              rw [← q, hs0] at e; cases e
          case B =>
            simp only [List.forall_mem_cons]
            exact ⟨⟨hs1, NE.get (by k_mem)⟩, ⟨hs0, NE.get (by k_mem)⟩, ⟨frn _ (NE.fresh (o := LO _ _) (by k_mem)) (by k_ne) (by k_ne), NE.get (by k_mem)⟩, ⟨frn _ (NE.fresh (o := of) (by k_mem)) (by k_ne) (by k_ne), NE.get (by k_mem)⟩, ⟨frn _ (NE.fresh (o := om) (by k_mem)) (by k_ne) (by k_ne), NE.get (by k_mem)⟩, List.forall_mem_nil _⟩
          case C => exact fun g z1 z2 => ViewAt.mk z1 z2
          case D => exact fun g z => ⟨TU, nU, z⟩
end PartMade
/-! the law's own text -/
noncomputable def lawStmts : List Stmt := match PG.main.body.getLast? with | some (.FunctionDef _ _ b ..) => b | _ => []
noncomputable def lawScope : Scope := match PG.main.body.getLast? with | some (.FunctionDef (scope := sc) ..) => sc | _ => default
noncomputable def forBody : Option Stmt → List Stmt | some (.For _ _ b _ _) => b | _ => []
noncomputable abbrev lawEnv (L fa : Addr) (cd : Value) : Env := envOfC (Str.ofString "law") lawScope L fa cd
noncomputable def addBody : List Stmt := forBody lawStmts[3]?
noncomputable def deedBody : List Stmt := forBody lawStmts[6]?
/-- apart, hid from omega -/
def NeA (a b : Addr) : Prop := a ≠ b
theorem NeA.ne {a b : Addr} (h : NeA a b) : a ≠ b := h
theorem NeA.en {a b : Addr} (h : NeA a b) : b ≠ a := Ne.symm h
def AllNeA (a : Addr) : List Addr → Prop
  | [] => True
  | b :: r => NeA a b ∧ AllNeA a r
def Apart : List Addr → Prop
  | [] => True
  | a :: r => AllNeA a r ∧ Apart r
theorem allNeA_of {d : Addr} : ∀ {l : List (Addr × Obj)}, (∀ p ∈ l, p.1 ≠ d) → ∀ S : List (Addr × Obj), (∀ p ∈ S, p ∈ l) → AllNeA d (S.map (·.1))
  | _, _, [], _ => trivial
  | _, h, p :: r, s => ⟨Ne.symm (h p (s p (.head _))), allNeA_of h r fun q hq => s q (.tail _ hq)⟩
def Off (G : Heap) (as : List Addr) : Prop := ∀ a ∈ as, G.get? a = none
theorem Off.list {G : Heap} {S : List (Addr × Obj)} (h : Off G (S.map (·.1))) : ∀ p ∈ S, G.get? p.1 = none := fun p hp => h _ (List.mem_map_of_mem hp)
theorem Off.of {G : Heap} {S : List (Addr × Obj)} (h : ∀ p ∈ S, G.get? p.1 = none) : Off G (S.map (·.1)) := fun a ha => by
  obtain ⟨p, hp, rfl⟩ := List.mem_map.mp ha
  exact h p hp
theorem Apart.elim5 {a0 a1 a2 a3 a4 : Addr} {P : Prop} (ap : Apart [a0, a1, a2, a3, a4]) (k : NeA a0 a1 → NeA a0 a2 → NeA a0 a3 → NeA a0 a4 → NeA a1 a2 → NeA a1 a3 → NeA a1 a4 → NeA a2 a3 → NeA a2 a4 → NeA a3 a4 → P) : P :=
  k (ap.1.1) (ap.1.2.1) (ap.1.2.2.1) (ap.1.2.2.2.1) (ap.2.1.1) (ap.2.1.2.1) (ap.2.1.2.2.1) (ap.2.2.1.1) (ap.2.2.1.2.1) (ap.2.2.2.1.1)
theorem Apart.elim8 {a0 a1 a2 a3 a4 a5 a6 a7 : Addr} {P : Prop} (ap : Apart [a0, a1, a2, a3, a4, a5, a6, a7]) (k : NeA a0 a1 → NeA a0 a2 → NeA a0 a3 → NeA a0 a4 → NeA a0 a5 → NeA a0 a6 → NeA a0 a7 → NeA a1 a2 → NeA a1 a3 → NeA a1 a4 → NeA a1 a5 → NeA a1 a6 → NeA a1 a7 → NeA a2 a3 → NeA a2 a4 → NeA a2 a5 → NeA a2 a6 → NeA a2 a7 → NeA a3 a4 → NeA a3 a5 → NeA a3 a6 → NeA a3 a7 → NeA a4 a5 → NeA a4 a6 → NeA a4 a7 → NeA a5 a6 → NeA a5 a7 → NeA a6 a7 → P) : P :=
  k (ap.1.1) (ap.1.2.1) (ap.1.2.2.1) (ap.1.2.2.2.1) (ap.1.2.2.2.2.1) (ap.1.2.2.2.2.2.1) (ap.1.2.2.2.2.2.2.1) (ap.2.1.1) (ap.2.1.2.1) (ap.2.1.2.2.1) (ap.2.1.2.2.2.1) (ap.2.1.2.2.2.2.1) (ap.2.1.2.2.2.2.2.1) (ap.2.2.1.1) (ap.2.2.1.2.1) (ap.2.2.1.2.2.1) (ap.2.2.1.2.2.2.1) (ap.2.2.1.2.2.2.2.1) (ap.2.2.2.1.1) (ap.2.2.2.1.2.1) (ap.2.2.2.1.2.2.1) (ap.2.2.2.1.2.2.2.1) (ap.2.2.2.2.1.1) (ap.2.2.2.2.1.2.1) (ap.2.2.2.2.1.2.2.1) (ap.2.2.2.2.2.1.1) (ap.2.2.2.2.2.1.2.1) (ap.2.2.2.2.2.2.1.1)
theorem Apart.elim10 {a0 a1 a2 a3 a4 a5 a6 a7 a8 a9 : Addr} {P : Prop} (ap : Apart [a0, a1, a2, a3, a4, a5, a6, a7, a8, a9]) (k : NeA a0 a1 → NeA a0 a2 → NeA a0 a3 → NeA a0 a4 → NeA a0 a5 → NeA a0 a6 → NeA a0 a7 → NeA a0 a8 → NeA a0 a9 → NeA a1 a2 → NeA a1 a3 → NeA a1 a4 → NeA a1 a5 → NeA a1 a6 → NeA a1 a7 → NeA a1 a8 → NeA a1 a9 → NeA a2 a3 → NeA a2 a4 → NeA a2 a5 → NeA a2 a6 → NeA a2 a7 → NeA a2 a8 → NeA a2 a9 → NeA a3 a4 → NeA a3 a5 → NeA a3 a6 → NeA a3 a7 → NeA a3 a8 → NeA a3 a9 → NeA a4 a5 → NeA a4 a6 → NeA a4 a7 → NeA a4 a8 → NeA a4 a9 → NeA a5 a6 → NeA a5 a7 → NeA a5 a8 → NeA a5 a9 → NeA a6 a7 → NeA a6 a8 → NeA a6 a9 → NeA a7 a8 → NeA a7 a9 → NeA a8 a9 → P) : P :=
  k (ap.1.1) (ap.1.2.1) (ap.1.2.2.1) (ap.1.2.2.2.1) (ap.1.2.2.2.2.1) (ap.1.2.2.2.2.2.1) (ap.1.2.2.2.2.2.2.1) (ap.1.2.2.2.2.2.2.2.1) (ap.1.2.2.2.2.2.2.2.2.1) (ap.2.1.1) (ap.2.1.2.1) (ap.2.1.2.2.1) (ap.2.1.2.2.2.1) (ap.2.1.2.2.2.2.1) (ap.2.1.2.2.2.2.2.1) (ap.2.1.2.2.2.2.2.2.1) (ap.2.1.2.2.2.2.2.2.2.1) (ap.2.2.1.1) (ap.2.2.1.2.1) (ap.2.2.1.2.2.1) (ap.2.2.1.2.2.2.1) (ap.2.2.1.2.2.2.2.1) (ap.2.2.1.2.2.2.2.2.1) (ap.2.2.1.2.2.2.2.2.2.1) (ap.2.2.2.1.1) (ap.2.2.2.1.2.1) (ap.2.2.2.1.2.2.1) (ap.2.2.2.1.2.2.2.1) (ap.2.2.2.1.2.2.2.2.1) (ap.2.2.2.1.2.2.2.2.2.1) (ap.2.2.2.2.1.1) (ap.2.2.2.2.1.2.1) (ap.2.2.2.2.1.2.2.1) (ap.2.2.2.2.1.2.2.2.1) (ap.2.2.2.2.1.2.2.2.2.1) (ap.2.2.2.2.2.1.1) (ap.2.2.2.2.2.1.2.1) (ap.2.2.2.2.2.1.2.2.1) (ap.2.2.2.2.2.1.2.2.2.1) (ap.2.2.2.2.2.2.1.1) (ap.2.2.2.2.2.2.1.2.1) (ap.2.2.2.2.2.2.1.2.2.1) (ap.2.2.2.2.2.2.2.1.1) (ap.2.2.2.2.2.2.2.1.2.1) (ap.2.2.2.2.2.2.2.2.1.1)
theorem AllNeA.elim5 {d a0 a1 a2 a3 a4 : Addr} {o0 o1 o2 o3 o4 : Obj} {P : Prop} (h : AllNeA d ([(a0, o0), (a1, o1), (a2, o2), (a3, o3), (a4, o4)].map (·.1))) (k : NeA d a0 → NeA d a1 → NeA d a2 → NeA d a3 → NeA d a4 → P) : P :=
  k h.1 h.2.1 h.2.2.1 h.2.2.2.1 h.2.2.2.2.1
theorem AllNeA.elim8 {d a0 a1 a2 a3 a4 a5 a6 a7 : Addr} {o0 o1 o2 o3 o4 o5 o6 o7 : Obj} {P : Prop} (h : AllNeA d ([(a0, o0), (a1, o1), (a2, o2), (a3, o3), (a4, o4), (a5, o5), (a6, o6), (a7, o7)].map (·.1))) (k : NeA d a0 → NeA d a1 → NeA d a2 → NeA d a3 → NeA d a4 → NeA d a5 → NeA d a6 → NeA d a7 → P) : P :=
  k h.1 h.2.1 h.2.2.1 h.2.2.2.1 h.2.2.2.2.1 h.2.2.2.2.2.1 h.2.2.2.2.2.2.1 h.2.2.2.2.2.2.2.1
theorem AllNeA.elim10 {d a0 a1 a2 a3 a4 a5 a6 a7 a8 a9 : Addr} {o0 o1 o2 o3 o4 o5 o6 o7 o8 o9 : Obj} {P : Prop} (h : AllNeA d ([(a0, o0), (a1, o1), (a2, o2), (a3, o3), (a4, o4), (a5, o5), (a6, o6), (a7, o7), (a8, o8), (a9, o9)].map (·.1))) (k : NeA d a0 → NeA d a1 → NeA d a2 → NeA d a3 → NeA d a4 → NeA d a5 → NeA d a6 → NeA d a7 → NeA d a8 → NeA d a9 → P) : P :=
  k h.1 h.2.1 h.2.2.1 h.2.2.2.1 h.2.2.2.2.1 h.2.2.2.2.2.1 h.2.2.2.2.2.2.1 h.2.2.2.2.2.2.2.1 h.2.2.2.2.2.2.2.2.1 h.2.2.2.2.2.2.2.2.2.1
theorem AllNeA.elim11 {d a0 a1 a2 a3 a4 a5 a6 a7 a8 a9 a10 : Addr} {o0 o1 o2 o3 o4 o5 o6 o7 o8 o9 o10 : Obj} {P : Prop} (h : AllNeA d ([(a0, o0), (a1, o1), (a2, o2), (a3, o3), (a4, o4), (a5, o5), (a6, o6), (a7, o7), (a8, o8), (a9, o9), (a10, o10)].map (·.1))) (k : NeA d a0 → NeA d a1 → NeA d a2 → NeA d a3 → NeA d a4 → NeA d a5 → NeA d a6 → NeA d a7 → NeA d a8 → NeA d a9 → NeA d a10 → P) : P :=
  k h.1 h.2.1 h.2.2.1 h.2.2.2.1 h.2.2.2.2.1 h.2.2.2.2.2.1 h.2.2.2.2.2.2.1 h.2.2.2.2.2.2.2.1 h.2.2.2.2.2.2.2.2.1 h.2.2.2.2.2.2.2.2.2.1 h.2.2.2.2.2.2.2.2.2.2.1
theorem gets2 {G : Heap} {a0 a1 : Addr} {o0 o1 : Obj} {P : Prop} (h : ∀ q ∈ [(a0, o0), (a1, o1)], G.get? q.1 = some q.2) (k : G.get? a0 = some o0 → G.get? a1 = some o1 → P) : P :=
  k (h _ (.head _)) (h _ (.tail _ (.head _)))
theorem gets8 {G : Heap} {a0 a1 a2 a3 a4 a5 a6 a7 : Addr} {o0 o1 o2 o3 o4 o5 o6 o7 : Obj} {P : Prop} (h : ∀ q ∈ [(a0, o0), (a1, o1), (a2, o2), (a3, o3), (a4, o4), (a5, o5), (a6, o6), (a7, o7)], G.get? q.1 = some q.2) (k : G.get? a0 = some o0 → G.get? a1 = some o1 → G.get? a2 = some o2 → G.get? a3 = some o3 → G.get? a4 = some o4 → G.get? a5 = some o5 → G.get? a6 = some o6 → G.get? a7 = some o7 → P) : P :=
  k (h _ (.head _)) (h _ (.tail _ (.head _))) (h _ (.tail _ (.tail _ (.head _)))) (h _ (.tail _ (.tail _ (.tail _ (.head _))))) (h _ (.tail _ (.tail _ (.tail _ (.tail _ (.head _)))))) (h _ (.tail _ (.tail _ (.tail _ (.tail _ (.tail _ (.head _))))))) (h _ (.tail _ (.tail _ (.tail _ (.tail _ (.tail _ (.tail _ (.head _)))))))) (h _ (.tail _ (.tail _ (.tail _ (.tail _ (.tail _ (.tail _ (.tail _ (.head _)))))))))
theorem gets13 {G : Heap} {a0 a1 a2 a3 a4 a5 a6 a7 a8 a9 a10 a11 a12 : Addr} {o0 o1 o2 o3 o4 o5 o6 o7 o8 o9 o10 o11 o12 : Obj} {P : Prop} (h : ∀ q ∈ [(a0, o0), (a1, o1), (a2, o2), (a3, o3), (a4, o4), (a5, o5), (a6, o6), (a7, o7), (a8, o8), (a9, o9), (a10, o10), (a11, o11), (a12, o12)], G.get? q.1 = some q.2) (k : G.get? a0 = some o0 → G.get? a1 = some o1 → G.get? a2 = some o2 → G.get? a3 = some o3 → G.get? a4 = some o4 → G.get? a5 = some o5 → G.get? a6 = some o6 → G.get? a7 = some o7 → G.get? a8 = some o8 → G.get? a9 = some o9 → G.get? a10 = some o10 → G.get? a11 = some o11 → G.get? a12 = some o12 → P) : P :=
  k (h _ (.head _)) (h _ (.tail _ (.head _))) (h _ (.tail _ (.tail _ (.head _)))) (h _ (.tail _ (.tail _ (.tail _ (.head _))))) (h _ (.tail _ (.tail _ (.tail _ (.tail _ (.head _)))))) (h _ (.tail _ (.tail _ (.tail _ (.tail _ (.tail _ (.head _))))))) (h _ (.tail _ (.tail _ (.tail _ (.tail _ (.tail _ (.tail _ (.head _)))))))) (h _ (.tail _ (.tail _ (.tail _ (.tail _ (.tail _ (.tail _ (.tail _ (.head _))))))))) (h _ (.tail _ (.tail _ (.tail _ (.tail _ (.tail _ (.tail _ (.tail _ (.tail _ (.head _)))))))))) (h _ (.tail _ (.tail _ (.tail _ (.tail _ (.tail _ (.tail _ (.tail _ (.tail _ (.tail _ (.head _))))))))))) (h _ (.tail _ (.tail _ (.tail _ (.tail _ (.tail _ (.tail _ (.tail _ (.tail _ (.tail _ (.tail _ (.head _)))))))))))) (h _ (.tail _ (.tail _ (.tail _ (.tail _ (.tail _ (.tail _ (.tail _ (.tail _ (.tail _ (.tail _ (.tail _ (.head _))))))))))))) (h _ (.tail _ (.tail _ (.tail _ (.tail _ (.tail _ (.tail _ (.tail _ (.tail _ (.tail _ (.tail _ (.tail _ (.tail _ (.head _))))))))))))))
theorem nones9 {G : Heap} {a0 a1 a2 a3 a4 a5 a6 a7 a8 : Addr} {o0 o1 o2 o3 o4 o5 o6 o7 o8 : Obj} {P : Prop} (h : ∀ q ∈ [(a0, o0), (a1, o1), (a2, o2), (a3, o3), (a4, o4), (a5, o5), (a6, o6), (a7, o7), (a8, o8)], G.get? q.1 = none) (k : G.get? a0 = none → G.get? a1 = none → G.get? a2 = none → G.get? a3 = none → G.get? a4 = none → G.get? a5 = none → G.get? a6 = none → G.get? a7 = none → G.get? a8 = none → P) : P :=
  k (h _ (.head _)) (h _ (.tail _ (.head _))) (h _ (.tail _ (.tail _ (.head _)))) (h _ (.tail _ (.tail _ (.tail _ (.head _))))) (h _ (.tail _ (.tail _ (.tail _ (.tail _ (.head _)))))) (h _ (.tail _ (.tail _ (.tail _ (.tail _ (.tail _ (.head _))))))) (h _ (.tail _ (.tail _ (.tail _ (.tail _ (.tail _ (.tail _ (.head _)))))))) (h _ (.tail _ (.tail _ (.tail _ (.tail _ (.tail _ (.tail _ (.tail _ (.head _))))))))) (h _ (.tail _ (.tail _ (.tail _ (.tail _ (.tail _ (.tail _ (.tail _ (.tail _ (.head _))))))))))
theorem AllNeA.list8 {d a0 a1 a2 a3 a4 a5 a6 a7 : Addr} {P : Prop} (h : AllNeA d [a0, a1, a2, a3, a4, a5, a6, a7]) (k : NeA d a0 → NeA d a1 → NeA d a2 → NeA d a3 → NeA d a4 → NeA d a5 → NeA d a6 → NeA d a7 → P) : P :=
  k h.1 h.2.1 h.2.2.1 h.2.2.2.1 h.2.2.2.2.1 h.2.2.2.2.2.1 h.2.2.2.2.2.2.1 h.2.2.2.2.2.2.2.1
theorem AllNeA.cons {d a : Addr} {r : List Addr} (h : NeA d a) (t : AllNeA d r) : AllNeA d (a :: r) := ⟨h, t⟩
theorem Apart.cons {a : Addr} {r : List Addr} (h : AllNeA a r) (t : Apart r) : Apart (a :: r) := ⟨h, t⟩
theorem ltElim11 {d a0 a1 a2 a3 a4 a5 a6 a7 a8 a9 a10 : Nat} {TL : List (Addr × Obj)} {P : Prop} (h : a0 < d ∧ a1 < d ∧ a2 < d ∧ a3 < d ∧ a4 < d ∧ a5 < d ∧ a6 < d ∧ a7 < d ∧ a8 < d ∧ a9 < d ∧ a10 < d ∧ AllLt d TL) (k : NeA d a0 → NeA d a1 → NeA d a2 → NeA d a3 → NeA d a4 → NeA d a5 → NeA d a6 → NeA d a7 → NeA d a8 → NeA d a9 → NeA d a10 → (∀ p ∈ TL, p.1 ≠ d) → P) : P :=
  k (Nat.ne_of_gt h.1) (Nat.ne_of_gt h.2.1) (Nat.ne_of_gt h.2.2.1) (Nat.ne_of_gt h.2.2.2.1) (Nat.ne_of_gt h.2.2.2.2.1) (Nat.ne_of_gt h.2.2.2.2.2.1) (Nat.ne_of_gt h.2.2.2.2.2.2.1) (Nat.ne_of_gt h.2.2.2.2.2.2.2.1) (Nat.ne_of_gt h.2.2.2.2.2.2.2.2.1) (Nat.ne_of_gt h.2.2.2.2.2.2.2.2.2.1) (Nat.ne_of_gt h.2.2.2.2.2.2.2.2.2.2.1) (AllLt.ne h.2.2.2.2.2.2.2.2.2.2.2)
theorem ltElim12 {d a0 a1 a2 a3 a4 a5 a6 a7 a8 a9 a10 a11 : Nat} {TL : List (Addr × Obj)} {P : Prop} (h : a0 < d ∧ a1 < d ∧ a2 < d ∧ a3 < d ∧ a4 < d ∧ a5 < d ∧ a6 < d ∧ a7 < d ∧ a8 < d ∧ a9 < d ∧ a10 < d ∧ a11 < d ∧ AllLt d TL) (k : NeA d a0 → NeA d a1 → NeA d a2 → NeA d a3 → NeA d a4 → NeA d a5 → NeA d a6 → NeA d a7 → NeA d a8 → NeA d a9 → NeA d a10 → NeA d a11 → (∀ p ∈ TL, p.1 ≠ d) → P) : P :=
  k (Nat.ne_of_gt h.1) (Nat.ne_of_gt h.2.1) (Nat.ne_of_gt h.2.2.1) (Nat.ne_of_gt h.2.2.2.1) (Nat.ne_of_gt h.2.2.2.2.1) (Nat.ne_of_gt h.2.2.2.2.2.1) (Nat.ne_of_gt h.2.2.2.2.2.2.1) (Nat.ne_of_gt h.2.2.2.2.2.2.2.1) (Nat.ne_of_gt h.2.2.2.2.2.2.2.2.1) (Nat.ne_of_gt h.2.2.2.2.2.2.2.2.2.1) (Nat.ne_of_gt h.2.2.2.2.2.2.2.2.2.2.1) (Nat.ne_of_gt h.2.2.2.2.2.2.2.2.2.2.2.1) (AllLt.ne h.2.2.2.2.2.2.2.2.2.2.2.2)
theorem allNeA_all {d : Addr} : ∀ {l : List (Addr × Obj)}, AllNeA d (l.map (·.1)) → ∀ a ∈ l.map (·.1), NeA d a
  | _ :: _, h, _, .head _ => h.1
  | _ :: _, h, a, .tail _ m => allNeA_all h.2 a m
/-- the tail made anew: the ledger's S stays written, all else goes into the tail -/
theorem Im.redo {h₀ G h : Heap} {L : Addr} {m : Str → Option Value} {S X TL : List (Addr × Obj)} (I : Im h₀ G TL) (F : Fr h₀ L h m) (N : News h₀ L h (X ++ (S ++ TL))) (nG : Off G (S.map (·.1))) (dis : ∀ p ∈ S, ∀ q ∈ X, q.1 ≠ p.1) :
    ∃ G' TL', Im h₀ G' TL' ∧ News h₀ L h (S ++ TL') ∧ Off G' (S.map (·.1)) ∧ G.StaysIn G' ∧ (∀ q ∈ X, G'.get? q.1 = some q.2) ∧ ∀ H : Heap, H.StaysIn h → Off H (S.map (·.1)) → H.get? L = none → H.StaysIn G' := by
  have NS : News h₀ L h S := fun p hp => N p (List.mem_append_right _ (List.mem_append_left _ hp))
  have GL : G.get? L = none := by
    cases e : G.get? L with
    | none => rfl
    | some o =>
      rcases I.has _ _ e with q | q
      · rw [fr_noL F] at q; cases q
      · exact absurd rfl (N _ (List.mem_append_right _ (List.mem_append_right _ q))).2.1
  obtain ⟨G', TL', I', N', nG', _, up⟩ := Im.make F NS
  refine ⟨G', TL', I', N', Off.of nG', up G (I.stays F N fun p hp => List.mem_append_right _ (List.mem_append_right _ hp)) (Off.list nG) GL, fun q hq => ?_, fun H k n1 n2 => up H k (Off.list n1) n2⟩
  have T := N q (List.mem_append_left _ hq)
  have e1 : (only h fun a => decide (a = q.1)).get? q.1 = some q.2 := only_of T.1 (by simp)
  refine up (only h fun a => decide (a = q.1)) only_sub (fun p hp => ?_) ?_ _ _ e1
  · rw [only_get, if_neg (by simpa using Ne.symm (dis p hp q hq))]
  · rw [only_get, if_neg (by simpa using Ne.symm T.2.1)]
theorem Im.after {h₀ G h h' : Heap} {L : Addr} {m : Str → Option Value} {S S' TL : List (Addr × Obj)} (I : Im h₀ G TL) (F : Fr h₀ L h m) (N : News h₀ L h (S ++ TL)) (F' : Fr h₀ L h' m) (N' : News h₀ L h' (S' ++ TL)) (e : S'.map (·.1) = S.map (·.1)) (nG : Off G (S.map (·.1))) :
    ∃ G' TL', Im h₀ G' TL' ∧ News h₀ L h' (S' ++ TL') ∧ Off G' (S'.map (·.1)) ∧ G.StaysIn G' ∧ (grow G h h').StaysIn G' := by
  have GL : G.get? L = none := by
    cases e : G.get? L with
    | none => rfl
    | some o =>
      rcases I.has _ _ e with q | q
      · rw [fr_noL F] at q; cases q
      · exact absurd rfl (N _ (List.mem_append_right _ q)).2.1
  obtain ⟨G', TL', I', N'', off', up, _, H⟩ := I.redo (X := []) F' N' (e ▸ nG) (fun _ _ _ h => nomatch h)
  refine ⟨G', TL', I', N'', off', up, H _ grow_sub ?_ ?_⟩
  · rw [e]
    intro a ha
    obtain ⟨p, hp, rfl⟩ := List.mem_map.mp ha
    exact grow_none (nG _ ha) (N p (List.mem_append_left _ hp)).1
  · obtain ⟨o, _, _, q, _⟩ := F.ns
    exact grow_none GL q
/-- the law's book: its tuples -/
def BookIn (h : Heap) (n : Nat) (bt va : Nat → Addr) (vm : Nat → Int) : Prop := ∀ i, i < n → ∃ t, TupAt h (bt i) [.ref (va i), .int (vm i) t]
theorem BookIn.up {h h' : Heap} {n : Nat} {bt va : Nat → Addr} {vm : Nat → Int} (k : h.StaysIn h') (x : BookIn h n bt va vm) : BookIn h' n bt va vm := fun i hi => (x i hi).imp fun _ z => z.up k
section
variable {w : World} {A : Around} {E : Value → Shared → Prop} {s : Shared} {h₀ : Heap} {L l : Addr} {m : Str → Option Value} {Q : Value → Shared → Prop} {u ms : Int} {tp : Addr} {ex : Bool}
theorem letterS_uid (X : (heapK w.params).In h₀) (F : Fr h₀ L s.heap m) (hL : LetterAt s.heap l u tp ms) (h : ∀ t, Q (.int u t) { s with toks := s.toks + 1 }) : wpAny (model PG w) A (getAttr (.ref l) (Str.ofString "uid") ex) Q E s := by
  obtain ⟨d, H, T, n, tu, tb, ti, i, tm, I⟩ := hL
  refine' get_own F X I ?a ?b ?c ?d ?e ?f (h tu)
  case a => k_is
  case b => k_is
  case c => k_is
  case d => k_is
  case e => k_get
  case f => k_handed
theorem letterS_flags (X : (heapK w.params).In h₀) (F : Fr h₀ L s.heap m) (hL : LetterAt s.heap l u tp ms) (h : Q (.ref tp) { s with toks := s.toks + 1 }) : wpAny (model PG w) A (getAttr (.ref l) (Str.ofString "flags") ex) Q E s := by
  obtain ⟨d, H, T, n, tu, tb, ti, i, tm, I⟩ := hL
  refine' get_own F X I ?a ?b ?c ?d ?e ?f h
  case a => k_is
  case b => k_is
  case c => k_is
  case d => k_is
  case e => k_get
  case f => k_handed
theorem letterS_modseq (X : (heapK w.params).In h₀) (F : Fr h₀ L s.heap m) (hL : LetterAt s.heap l u tp ms) (h : ∀ t, Q (.int ms t) { s with toks := s.toks + 1 }) : wpAny (model PG w) A (getAttr (.ref l) (Str.ofString "modseq") ex) Q E s := by
  obtain ⟨d, H, T, n, tu, tb, ti, i, tm, I⟩ := hL
  refine' get_own F X I ?a ?b ?c ?d ?e ?f (h tm)
  case a => k_is
  case b => k_is
  case c => k_is
  case d => k_is
  case e => k_get
  case f => k_handed
theorem flags_item {value slice : Expr} {D : Addr} {a : Nat → Addr} {r : Int} {t : Tok} (hD : ∃ e, s.heap.get? D = some (LO ((List.range 4).map fun i => .ref (a i)) e)) (h0 : 0 ≤ r) (h1 : r < 4)
    (h : Q (.ref (a r.toNat)) s) (hs : subscripted slice false (.ref D) (.int r t) = operate [.ref D, .int r t] (getItem (.ref D) (.int r t)) := by with_unfolding_all rfl) :
    wpAny (model PG w) A (subscriptTail value slice (.ref D) (.int r t)) Q E s := by
  obtain ⟨e, hD⟩ := hD
  have hl : s.heap.IsList D ((List.range 4).map fun i => Value.ref (a i)).toArray := ⟨_, hD, rfl, e, rfl⟩
  refine tail_any hl.typeIs slot_list_getitem.lookup (wpAny_getItem_list (x := .ref (a r.toNat)) hl h0 (by omega) ?_ h) hs
  have : r.toNat < 4 := by omega
  simp [this]
end
local macro_rules | `(tactic| k_ne) => `(tactic| first | exact NeA.ne (by with_reducible assumption) | exact NeA.en (by with_reducible assumption))
local macro_rules | `(tactic| walk_at "my base") => `(tactic| exact Bs.up ⟨by with_reducible assumption, by with_reducible assumption⟩ (Im.sub (by with_reducible assumption)))
local macro_rules | `(tactic| walk_at "my letterG") => `(tactic| with_reducible assumption)
local macro_rules | `(tactic| walk_at "call ref") => `(tactic| (k_here; (with_reducible show wpAny _ _ (call (Value.ref 316) _) _ _ _); k_dflt (refine draw_spec (Bs.up ⟨by with_reducible assumption, by with_reducible assumption⟩ (Im.sub (by with_reducible assumption))) (by walk_at "my im") (by walk_at "my room") (by with_reducible assumption) (by with_reducible assumption) (by with_reducible assumption) (News.get (by with_reducible assumption) (by k_mem)) (by with_reducible assumption) (by omega) (by omega) (by omega) (by omega) ?_); intro h' tk' r' tr' t1' n' p1' p2' k' e'; (refine and2 (newsUpd (by with_reducible assumption) (by with_reducible assumption) k' (by k_upd) e') ?_); intro F'' N''; (try k_sweep); (try dsimp only)))
local macro_rules | `(tactic| walk_at "getAttr ref") => `(tactic| (k_here; k_dflt (first
  | ((with_reducible show wpAny _ _ (getAttr (Value.ref _) (PySem.Str.ofString "uid") _) _ _ _); refine letterS_uid (by with_reducible assumption) (by with_reducible assumption) (by walk_at "my letterup") ?_; intro t')
  | ((with_reducible show wpAny _ _ (getAttr (Value.ref _) (PySem.Str.ofString "flags") _) _ _ _); refine letterS_flags (by with_reducible assumption) (by with_reducible assumption) (by walk_at "my letterup") ?_)
  | ((with_reducible show wpAny _ _ (getAttr (Value.ref _) (PySem.Str.ofString "modseq") _) _ _ _); refine letterS_modseq (by with_reducible assumption) (by with_reducible assumption) (by walk_at "my letterup") ?_; intro t'))))
local macro_rules | `(tactic| walk_at "subscriptTail") => `(tactic| (k_here; (with_reducible show wpAny _ _ (subscriptTail _ _ (Value.ref _) (Value.int _ _)) _ _ _); k_dflt (refine flags_item (FlsAt.up (by walk_at "my im") (by with_reducible assumption)).1 (by omega) (by omega) ?_)))
local macro_rules | `(tactic| walk_at "setItem ref int") => `(tactic| (k_here; k_dflt (refine' dict_add ?F ?N ?U ?d ?a ?c ?_; (case F => k_asm); (case N => k_asm); (case U => k_updF); (case d => with_reducible assumption); (case a => omega); (case c => omega); k_whole); intro h' o' F' N' d'; (try dsimp only at N'); (try k_sweep)))
/-- between the turns of the law's first loop -/
inductive LJ1 (w : World) (h₀ : Heap) (L c pen x bd ll bk : Addr) (sm : Int) (t2 : Tok) (o1 o2 o3 o4 : Obj) (vs : List Value) (mm : Str → Option Value) (i : Nat) (m : Str → Option Value) (nw : List (Addr × Obj)) : Prop
  | mk (u : Str → Option Value) (G : Heap) (TL : List (Addr × Obj)) (o ok : Obj) (e np : Nat) (spot : Int) (t1 : Tok) (l tp bt : Nat → Addr) (ms : Nat → Int) (fl : Nat → List Str) (q0 : m = over u (fun y => if y = Str.ofString "pen" then some (Value.ref pen) else mm y) [Str.ofString "lap", Str.ofString "letter"]) (q1 : nw = (pen, LO [.ref c, .int spot t1, .int sm t2] np) :: (bd, o) :: (ll, LO ((List.range i).map fun j => .ref (l j)) e) :: (bk, ok) :: (L + 1 + 1 + 1 + 1, o4) :: (L + 1 + 1 + 1, o3) :: (L + 1 + 1, o2) :: (L + 1, o1) :: TL) (q2 : Im h₀ G TL) (q3 : Off G [pen, bd, ll, bk, L + 1 + 1 + 1 + 1, L + 1 + 1 + 1, L + 1 + 1, L + 1]) (q4 : G.IsList c vs.toArray) (q5 : G.get? x = some (instObj 277 bd)) (q6 : 0 ≤ spot) (q7 : spot ≤ 1 + i) (q8 : BoxD ll ((i : Int) + 1) ((i : Int) + 1) o) (q9 : LettersIn G i l tp ms) (q10 : FlagsIn G i tp fl) (q11 : DictO w i (fun j => .ref (bt j)) ok) (q12 : BookIn G i bt tp ms) : LJ1 w h₀ L c pen x bd ll bk sm t2 o1 o2 o3 o4 vs mm i m nw
theorem LJ1.elim {w : World} {h₀ : Heap} {L c pen x bd ll bk : Addr} {sm : Int} {t2 : Tok} {o1 o2 o3 o4 : Obj} {vs : List Value} {mm : Str → Option Value} {i : Nat} {m : Str → Option Value} {nw : List (Addr × Obj)} (J : LJ1 w h₀ L c pen x bd ll bk sm t2 o1 o2 o3 o4 vs mm i m nw) {P : Prop} (k : ∀ (u : Str → Option Value) (G : Heap) (TL : List (Addr × Obj)) (o ok : Obj) (e np : Nat) (spot : Int) (t1 : Tok) (l tp bt : Nat → Addr) (ms : Nat → Int) (fl : Nat → List Str), m = over u (fun y => if y = Str.ofString "pen" then some (Value.ref pen) else mm y) [Str.ofString "lap", Str.ofString "letter"] → nw = (pen, LO [.ref c, .int spot t1, .int sm t2] np) :: (bd, o) :: (ll, LO ((List.range i).map fun j => .ref (l j)) e) :: (bk, ok) :: (L + 1 + 1 + 1 + 1, o4) :: (L + 1 + 1 + 1, o3) :: (L + 1 + 1, o2) :: (L + 1, o1) :: TL → Im h₀ G TL → Off G [pen, bd, ll, bk, L + 1 + 1 + 1 + 1, L + 1 + 1 + 1, L + 1 + 1, L + 1] → G.IsList c vs.toArray → G.get? x = some (instObj 277 bd) → 0 ≤ spot → spot ≤ 1 + i → BoxD ll ((i : Int) + 1) ((i : Int) + 1) o → LettersIn G i l tp ms → FlagsIn G i tp fl → DictO w i (fun j => .ref (bt j)) ok → BookIn G i bt tp ms → P) : P := by
  obtain ⟨u, G, TL, o, ok, e, np, spot, t1, l, tp, bt, ms, fl, q0, q1, q2, q3, q4, q5, q6, q7, q8, q9, q10, q11, q12⟩ := J
  exact k u G TL o ok e np spot t1 l tp bt ms fl q0 q1 q2 q3 q4 q5 q6 q7 q8 q9 q10 q11 q12
theorem add_turn {w : World} {mg mb : Str → Option Value} {dep un : Nat} {fr : Option (List Env)} {gd : Option (List Code)} {s : Shared} {h₀ : Heap} {L fa c pen x bd ll bk : Addr} {cd : Value} {sm : Int} {t2 ti : Tok} {o1 o2 o3 o4 io : Obj} {vs : List Value} {ns : List Int} {mm m₁ : Str → Option Value} {nw : List (Addr × Obj)} {i : Nat} {I : Addr} {Q : Flow → Shared → Prop}
    (X : (heapK w.params).In h₀) (T : TopRead VG LG mg mb h₀) (hA : dep < 800) (hU : un < 100) (hi : IntsAre vs ns) (hlen : ns.length ≤ 63) (hm : i ≤ 5) (ap : Apart [pen, bd, ll, bk, L + 1 + 1 + 1 + 1, L + 1 + 1 + 1, L + 1 + 1, L + 1]) (d1 : o1.data = .cell (some (.ref x))) (d2 : o2.data = .cell (some (.ref bk)))
    (J : LJ1 w h₀ L c pen x bd ll bk sm t2 o1 o2 o3 o4 vs mm i m₁ nw) (ne : ∀ p ∈ nw, p.1 ≠ I) (F : Fr h₀ L s.heap (fun y => if y = Str.ofString "lap" then some (.int (i : Int) ti) else m₁ y)) (N : News h₀ L s.heap ((I, io) :: nw)) :
    wpAny (model PG w) (AR dep fr gd un) (execs addBody (lawEnv L fa cd)) (ItPost h₀ L (LJ1 w h₀ L c pen x bd ll bk sm t2 o1 o2 o3 o4 vs mm (i + 1)) I io s Q) (fun _ _ => False) s := by
  refine LJ1.elim J ?_
  clear J
  intro u G TL o ok e np spot t1 l tp bt ms fl zq14 zq15 hIm off hc hx s0 s1 hb hL hF df hbk
  subst zq14
  subst zq15
  obtain ⟨h₁, gens, drawn, tk₁, os⟩ := s
  refine Apart.elim8 ap ?_
  intro a12 a13 a14 a15 a16 a17 a18 a23 a24 a25 a26 a27 a28 a34 a35 a36 a37 a38 a45 a46 a47 a48 a56 a57 a58 a67 a68 a78
  have f1 := off _ (.head _)
  have f2 := off _ (.tail _ (.head _))
  have f3 := off _ (.tail _ (.tail _ (.head _)))
  have f4 := off _ (.tail _ (.tail _ (.tail _ (.head _))))
  have f5 := off _ (.tail _ (.tail _ (.tail _ (.tail _ (.head _)))))
  have f6 := off _ (.tail _ (.tail _ (.tail _ (.tail _ (.tail _ (.head _))))))
  have f7 := off _ (.tail _ (.tail _ (.tail _ (.tail _ (.tail _ (.tail _ (.head _)))))))
  have f8 := off _ (.tail _ (.tail _ (.tail _ (.tail _ (.tail _ (.tail _ (.tail _ (.head _))))))))
  have nI := allNeA_of ne [(pen, LO [.ref c, .int spot t1, .int sm t2] np), (bd, o), (ll, LO ((List.range i).map fun j => .ref (l j)) e), (bk, ok), (L + 1 + 1 + 1 + 1, o4), (L + 1 + 1 + 1, o3), (L + 1 + 1, o2), (L + 1, o1)] (fun p hp => List.mem_append_left TL hp)
  refine AllNeA.elim8 nI ?_
  intro b1 b2 b3 b4 b5 b6 b7 b8
  have gI : G.get? I = none := hIm.off (m := fun _ => none) N (.head _) fun p hp => ne p (.tail _ (.tail _ (.tail _ (.tail _ (.tail _ (.tail _ (.tail _ (.tail _ hp))))))))
  show wpAny _ _ (execs (_ :: _) (envOfC _ { kind := _, names := _, isGenerator := _, isCoroutine := _, more := _ } _ _ _)) _ _ _
  walk_at "my steps"
  have F₀ : Fr h₀ L h₁ _ := F
  have N₀ : News h₀ L h₁ ([(I, io), (pen, LO [.ref c, .int spot t1, .int sm t2] np), (bd, o), (ll, LO ((List.range i).map fun j => .ref (l j)) e), (bk, ok), (L + 1 + 1 + 1 + 1, o4), (L + 1 + 1 + 1, o3), (L + 1 + 1, o2), (L + 1, o1)] ++ TL) := N
  clear F N
  k_dflt (refine lawFlags_spec (Bs.at X T F₀) (by walk_at "my room") ?_)
  intro h₂ tk₂ D a k₂ fD hfl
  refine ex2k6 (Im.next hIm F₀ N₀ (by walk_at "my each"; all_goals assumption) k₂) ?_
  intro G₁ TL₁ I₁ F₁ N₁ n₁ up₁ upz
  have hfl₁ := (hfl (bare h₀)).up (upz _ bare_sub)
  replace hc : G₁.IsList c vs.toArray := hc.at fun o q => up₁ _ _ q
  replace hx := up₁ _ _ hx
  replace hL := hL.up up₁
  replace hF := hF.up up₁
  replace hbk := hbk.up up₁
  clear hIm F₀ N₀ upz hfl up₁ f1 f2 f3 f4 f5 f6 f7 f8 gI
  have off₁ : Off G₁ [I, pen, bd, ll, bk, L + 1 + 1 + 1 + 1, L + 1 + 1 + 1, L + 1 + 1, L + 1] := Off.of n₁
  refine nones9 n₁ ?_
  intro gI f1 f2 f3 f4 f5 f6 f7 f8
  simp only [List.cons_append, List.nil_append] at N₁
  walk_at "my steps"
  rename Fr _ _ _ _ => Fa
  rename News _ _ _ _ => Na
  rename_i hP tkP r tr t1' np' p1 p2 kP eP
  k_dflt (refine addLetter_spec (Bs.up ⟨X, T⟩ I₁.sub) (I₁.stays Fa Na (by walk_at "my sub")) (by walk_at "my room") hx (Na.get (by k_mem)) f2 hb (Na.get (by k_mem)) f3 a23.ne (by simp; omega) (flOf_is _) (hfl₁.2 _ (by omega)) (by omega) (by omega) (by omega) (by omega) ?_)
  intro h₃ tk₃ l' D' o' e' kp e1 hb' e2 hLn hFn fl'
  have e2' : h₃.get? ll = some (LO ((List.range (i + 1)).map fun j => .ref (if j = i then l' else l j)) e') := by
    rw [e2]
    have : (List.range (i + 1)).map (fun j => Value.ref (if j = i then l' else l j)) = (List.range i).map (fun j => Value.ref (l j)) ++ [.ref l'] := by
      rw [List.range_succ, List.map_append]
      congr 1
      · exact List.map_congr_left fun j hj => by have := List.mem_range.mp hj; rw [if_neg (by omega)]
      · simp
    rw [this]; simp
  have Z := newsUpd2 Fa Na kp (by k_upd) (by k_upd) e1 e2' a23.ne
  refine and2 (Z) ?_
  intro Fb Nb
  have Na' : News h₀ L _ ([_, _, _, _, _, _, _, _, _] ++ TL₁) := Na
  have Nb' : News h₀ L h₃ ([_, _, _, _, _, _, _, _, _] ++ TL₁) := Nb
  refine ex2k5 (Im.after I₁ Fa Na' Fb Nb' rfl off₁) ?_
  intro G₂ TL₂ I₂ Nc off₂ up₂ gr₂
  replace hc : G₂.IsList c vs.toArray := hc.at fun o q => up₂ _ _ q
  replace hx := up₂ _ _ hx
  have hLn' := hLn.up gr₂
  have hL₂ : LettersIn G₂ (i + 1) (fun j => if j = i then l' else l j) (fun j => if j = i then D' else tp j) (fun j => if j = i then (i : Int) + 1 + 1 else ms j) := fun j hj => by
    by_cases q : j = i
    · subst q; simpa using hLn'
    · simpa [q] using (hL.up up₂) j (by omega)
  have hF₂ : FlagsIn G₂ (i + 1) (fun j => if j = i then D' else tp j) (fun j => if j = i then flOf r.toNat else fl j) := fun j hj => by
    by_cases q : j = i
    · subst q; simpa using ⟨hFn.up gr₂, flOf_is _⟩
    · simpa [q] using (hF.up up₂) j (by omega)
  replace hbk := hbk.up up₂
  clear I₁ Fa Na Na' Nb' Nb gr₂ hfl₁ f1 f2 f3 f4 f5 f6 f7 f8 gI kP kp eP up₂ hLn hFn hL hF e1 e2 e2' off₁
  have gI := off₂ _ (.head _)
  have f1 := off₂ _ (.tail _ (.head _))
  have f2 := off₂ _ (.tail _ (.tail _ (.head _)))
  have f3 := off₂ _ (.tail _ (.tail _ (.tail _ (.head _))))
  have f4 := off₂ _ (.tail _ (.tail _ (.tail _ (.tail _ (.head _)))))
  have f5 := off₂ _ (.tail _ (.tail _ (.tail _ (.tail _ (.tail _ (.head _))))))
  have f6 := off₂ _ (.tail _ (.tail _ (.tail _ (.tail _ (.tail _ (.tail _ (.head _)))))))
  have f7 := off₂ _ (.tail _ (.tail _ (.tail _ (.tail _ (.tail _ (.tail _ (.tail _ (.head _))))))))
  have f8 := off₂ _ (.tail _ (.tail _ (.tail _ (.tail _ (.tail _ (.tail _ (.tail _ (.tail _ (.head _)))))))))
  simp only [List.cons_append, List.nil_append] at Nc
  (try dsimp only)
  walk_at "my steps"
  rename Fr _ _ _ _ => Fz
  rename News _ _ _ _ => Nz
  rename_i h4 tk4 ta Dt h5 lD tb h6 oN dN
  have Nz' : News h₀ L h6 ([(Dt, _)] ++ ([_, _, _, _, _, _, _, _, _] ++ TL₂)) := Nz
  have nD : ∀ p ∈ [(I, io), (pen, LO [.ref c, .int (spot + 1) t1', .int sm t2] np'), (bd, o'), (ll, LO ((List.range (i + 1)).map fun j => .ref (if j = i then l' else l j)) e'), (bk, oN), (L + 1 + 1 + 1 + 1, o4), (L + 1 + 1 + 1, o3), (L + 1 + 1, o2), (L + 1, o1)] ++ TL₂, p.1 ≠ Dt := AllLt.ne lD
  refine ex2k6 (I₂.redo Fz Nz' off₂ (fun p hp q hq => by
    rw [List.mem_singleton] at hq
    subst hq
    exact Ne.symm (nD p (List.mem_append_left _ hp)))) ?_
  intro G₃ TL₃ I₃ N₃ off₃ up₃ xs₃ zz7
  clear zz7
  have hDt := xs₃ _ (.head _)
  simp only [List.cons_append, List.nil_append] at N₃
  have gI₃ : G₃.get? I = none := off₃ _ (.head _)
  have ci : ((i + 1 : Nat) : Int) = (i : Int) + 1 := by omega
  refine ItEnd.intro Fz N₃ (by k_all) ⟨_, G₃, TL₃, o', oN, e', np', spot + 1, t1', _, _, fun j => if j = i then Dt else bt j, _, _, over_eq (fun y hy => by simp only [List.mem_cons, not_or] at hy; simp [over, hy]), rfl, I₃, fun a ha => off₃ a (.tail _ ha), hc.at fun o q => up₃ _ _ q, up₃ _ _ hx, by omega, by omega, by rw [ci]; exact hb', hL₂.up up₃, hF₂.up up₃, dN.congr fun j _ => by (try dsimp only); split <;> rfl, fun j hj => ?_⟩
  by_cases q : j = i
  · subst q
    simp only [if_true]
    exact ⟨_, _, hDt⟩
  · simp only [if_neg q]
    exact (hbk.up up₃) j (by omega)
/-! sorted(a dict of the keys 1 .. n) -/
theorem lks_zip : ∀ (q : List Int) (k : Nat) (t : Nat → Tok), lks_vals q k t = (q.zipIdx k).map fun p => Value.int p.1 (t p.2)
  | [], _, _ => rfl
  | a :: r, k, t => by rw [List.zipIdx_cons, List.map_cons, ← lks_zip r]; rfl
theorem lks_range (n : Nat) (t : Nat → Tok) : lks_vals ((List.range n).map fun (i : Nat) => (i : Int) + 1) 0 t = (List.range n).map fun (i : Nat) => Value.int ((i : Int) + 1) (t i) := by
  rw [lks_zip]
  apply List.ext_getElem
  · simp
  · intro i h1 h2
    simp
theorem ints_kf : ∀ {vs : List Value} {ns : List Int}, IntsAre vs ns → kf_ints vs = true ∧ lks_nums vs = ns
  | _, _, .nil => ⟨rfl, rfl⟩
  | _, _, .cons a u r => ⟨(ints_kf r).1, by show a :: lks_nums _ = _; rw [(ints_kf r).2]⟩
theorem ints_of_all : ∀ {vs : List Value} {ns : List Int}, vs.length = ns.length → (∀ (j : Nat) v, vs[j]? = some v → ∃ k t, ns[j]? = some k ∧ v = .int k t) → IntsAre vs ns
  | [], [], _, _ => .nil
  | [], _ :: _, h, _ => by simp at h
  | _ :: _, [], h, _ => by simp at h
  | v :: vs, k :: ns, h, hv => by
    obtain ⟨k', t, e1, rfl⟩ := hv 0 v rfl
    cases e1
    exact .cons k t (ints_of_all (by simpa using h) fun j v' e => hv (j + 1) v' e)
theorem asc_range (n : Nat) : lks_asc ((List.range n).map fun (i : Nat) => (i : Int) + 1) = true := by
  have key : ∀ l : List Int, l.Pairwise (· ≤ ·) → lks_asc l = true := by
    intro l h
    induction l with
    | nil => rfl
    | cons a r ih =>
      have := List.pairwise_cons.mp h
      simp only [lks_asc, Bool.and_eq_true, List.all_eq_true, decide_eq_true_eq]
      exact ⟨this.1, ih this.2⟩
  apply key
  rw [List.pairwise_map]
  exact List.Pairwise.imp (fun h => by omega) List.pairwise_lt_range
theorem sorted_dict {w : World} {A : Around} {E : Value → Shared → Prop} {s : Shared} {h₀ : Heap} {L d : Addr} {m : Str → Option Value} {news : List (Addr × Obj)} {o : Obj} {n : Nat} {f : Nat → Value} {Q : Value → Shared → Prop}
    (hh : A.handled = none) (F : Fr h₀ L s.heap m) (N : News h₀ L s.heap news) (hm : s.heap.get? d = some o) (hd' : DictO w n f o) (lo : (d == sysModules) = false) (h1 : 1 ≤ n) (hn : n ≤ 50)
    (h : ∀ D h' tk (T : Nat → Tok), Fr h₀ L h' m → News h₀ L h' ((D, LO ((List.range n).map fun (i : Nat) => .int ((i : Int) + 1) (T i)) 2) :: news) → (∀ q ∈ news, q.1 < D) → (∀ a o, a ≠ L → s.heap.get? a = some o → h'.get? a = some o) → Q (.ref D) { s with heap := h', toks := tk }) :
    wpAny (model PG w) A (call (.builtin "sorted") [.ref d]) Q E s := by
  have hD : s.heap.DictOf (intKind PG w) d (kv n f) := Heap.dictOf_iff.mpr ⟨o, hm, hd'⟩
  obtain ⟨ep, hat⟩ := hD.dictAt
  obtain ⟨G, TL, I, NT, -, -, up⟩ := Im.make (S := []) F (fun _ h => nomatch h)
  have NT' : News h₀ L s.heap TL := NT
  refine kdu_sorted (kdl_dict (knd := intKind PG w) (kvs := kv n f) (ep := ep) lo) hh F NT' hat (by rw [kv_length, sizeLine_eq]; omega) fun B h' tk vs F' N' l1 hl hv => ?_
  rw [kv_length] at hl
  have hI : IntsAre vs ((List.range n).map fun (i : Nat) => (i : Int) + 1) := ints_of_all (by simpa using hl) fun j v e => by
    obtain ⟨k, x, e1, e2⟩ := hv j v e
    have hj : j < n := by have := (List.getElem?_eq_some_iff.mp e).1; omega
    simp only [kv, List.getElem?_map, List.getElem?_range hj, Option.map_some, Option.some.injEq, Prod.mk.injEq] at e1
    obtain ⟨rfl, rfl⟩ := e1
    obtain ⟨t, et⟩ := PyProof.V.Flat.int_inv (kdl_flat_int e2)
    exact ⟨(j : Int) + 1, t, by simp [hj], et⟩
  obtain ⟨k1, k2⟩ := ints_kf hI
  refine lks_sort (its := vs.toArray) (n := 0) (q := (List.range n).map fun (i : Nat) => (i : Int) + 1) (news' := fun t => (B, PySem.W.listOf (lks_vals ((List.range n).map fun (i : Nat) => (i : Int) + 1) 0 t).toArray 2) :: TL) F' N' (fun t => .head fun p hp => Nat.ne_of_lt (l1 p hp)) (by simpa using k1) ?_ ?_ (by simp; omega) (fun t h'' F'' N'' => ?_)
  · show lks_ok vs.toArray.toList _ = true
    simp only [lks_ok, k2, Bool.and_eq_true]
    exact ⟨List.isPerm_iff.mpr (List.Perm.refl _), asc_range n⟩
  · cases vs with
    | nil => simp at hl; omega
    | cons a r => rfl
  · rw [lks_range] at N''
    have GS : G.StaysIn h'' := I.stays F'' N'' fun p hp => .tail _ hp
    have kp : ∀ a o, a ≠ L → s.heap.get? a = some o → h''.get? a = some o := fun a o na e => by
      refine GS _ _ (up (only s.heap fun b => decide (b ≠ L)) only_sub (fun _ h => nomatch h) ?_ _ _ (only_of e (by simpa using na)))
      rw [only_get, if_neg (by simp)]
    have hin : ∀ p ∈ news, p ∈ TL := fun p hp => by
      have P := N p hp
      have e : G.get? p.1 = some p.2 := by
        refine up (only s.heap fun b => decide (b ≠ L)) only_sub (fun _ h => nomatch h) ?_ _ _ (only_of P.1 (by simpa using P.2.1))
        rw [only_get, if_neg (by simp)]
      rcases I.has _ _ e with q | q
      · rw [P.2.2] at q; cases q
      · exact q
    refine h B h'' tk t F'' (fun p hp => ?_) (fun q hq => l1 q (hin q hq)) kp
    rcases List.mem_cons.mp hp with rfl | hp
    · exact N'' _ (.head _)
    · have P := N p hp
      exact ⟨kp _ _ P.2.1 P.1, P.2⟩
section
variable {prog : Program} {w : World} {A : Around} {E : Value → Shared → Prop} {s : Shared} {env : Env} {Q : Flow → Shared → Prop}
  {elt iter : Expr} {x y : Str} {px py spos : Pos} {ifs : List Expr} {scope : Scope} {pos : Pos} {cl : List (Str × Addr)}
theorem cp_assign (hsw : swapsWith (.ListComp elt [⟨.Name x px, iter, ifs, 0⟩] scope pos) (some (.Name y py)) spos.line env = pure true) (hclos : closureFor scope env = pure cl) (hkind : scope.kind = .function)
    (hnames : ∀ y ∈ scope.names, y.2 = .local → scope.names.lookup y.1 = some .local)
    (h : wpAny (model prog w) A (eval iter env) (fun xv s₁ => CpAt prog w A env elt iter x px ifs scope pos cl (some (assign (.Name y py) env)) (fun _ s' => Q .next s') E xv s₁) E s)
    (hs : ∀ x, foldedSetIterable iter env x = pure x) :
    wpAny (model prog w) A (exec (.Assign [.Name y py] (.ListComp elt [⟨.Name x px, iter, ifs, 0⟩] scope pos) spos) env) Q E s := by
  rw [exec_Assign_Name_used _ _ _ _ hsw]
  refine wpAny_bind (wpAny_standAt (wpAny_bind ?_))
  show wpAny _ A (do let _ ← comprehension (.ListComp elt [⟨.Name x px, iter, ifs, 0⟩] scope pos) scope env _ (newList []) false (eval iter env) (some (assign (.Name y py) env))) _ _ s
  exact wpAny_bind (wpAny_mono (wpAny_comprehension_free (use := some (assign (.Name y py) env)) (Q := fun _ s' => Q .next s') rfl hs hclos hkind hnames h) (fun _ s' hq => wpAny_pure (wpAny_pure hq)) fun _ _ e => e)
theorem cp_filterA {h₀ : Heap} {m : Str → Option Value} {news : List (Addr × Obj)} {t : Expr} {l : Addr} {items : Array Value} {Q : Value → Shared → Prop} (hl : s.heap.IsList l items ∨ s.heap.IsTuple l items) (hh : A.handled = none) (hsz : items.size ≤ 1000)
    (hcell : ∀ y ∈ scope.names, y.2 ≠ .cell) (hkind : scope.kind = .function) (hx : scope.names.lookup x = some .local) (hy : env.kindOf y = some .local) (hp : (env.scope.kind == .class || (env.scope.kind == .module && env.locals != env.globals)) = false)
    (F : Fr h₀ env.locals s.heap m) (N : News h₀ env.locals s.heap news) (p : Nat → Bool) (Ψ : Nat → Value → Prop)
    (htest : ∀ C i v h tk m, items[i]? = some v → Fr s.heap C h m → m x = some v →
      wpAny (model prog w) A (isTrue t (compEnvC scope cl C env) (eval t (compEnvC scope cl C env))) (fun ok s₃ => TestEnd s h (p i) ok s₃) (fun _ _ => False) { s with heap := h, toks := tk })
    (helt : ∀ C i v h tk m, p i = true → items[i]? = some v → Fr s.heap C h m → m x = some v →
      wpAny (model prog w) A (eval elt (compEnvC scope cl C env)) (fun y s₃ => EltEnd s h (fun _ => Ψ i y) s₃) (fun _ _ => False) { s with heap := h, toks := tk })
    (done : ∀ D h' tk n' (Y : Nat → Value), (∀ q ∈ news, q.1 ≠ D) → Fr h₀ env.locals h' (fun z => if z = y then some (.ref D) else m z) → News h₀ env.locals h' ((D, LO (((List.range items.size).filter p).map Y) n') :: news) → (∀ i, i < items.size → p i = true → Ψ i (Y i)) → Q .none { s with heap := h', toks := tk }) :
    CpAt prog w A env elt iter x px [t] scope pos cl (some (assign (.Name y py) env)) Q E (.ref l) s := by
  refine cp_intro hl hh hsz hcell hkind hx p (fun i y _ => Ψ i y) (fun _ _ _ _ _ e => e) (fun C i v h tk m hv F hm => ?_) (fun C i v h tk m hp hv F hm => helt C i v h tk m hp hv F hm) ?_
  · exact forIn_one (f := fun c => isTrue c (compEnvC scope cl C env) (eval c (compEnvC scope cl C env))) (htest C i v h tk m hv F hm)
  · intro D C h' tk m' ys n' Y hs hD hC hne hns hget hys ⟨g, hg1, hg2, hg3, hg4, hg5⟩
    obtain ⟨yl⟩ := ys
    simp only at hys
    subst hys
    have F' : Fr h₀ env.locals h' m := Fr.keeps F hs
    have N' := newsAdd F N hs hD hget
    have Llive : ∃ o, s.heap.get? env.locals = some o := let ⟨o, _, _, e, _⟩ := F.ns; ⟨o, e⟩
    have hCL : C ≠ env.locals := fun q => by obtain ⟨o, e⟩ := Llive; rw [← q, hC] at e; cases e
    have hC₀ : h₀.get? C = none := none_sub F.keep hC
    show wpAny _ A (assign (.Name y py) env (.ref D)) _ _ _
    refine wpAny_assign_Name (wpAny_storeName_local hy F'.ns (fun h₂ hn₂ hs₂ => ?_) hp)
    have hL₀ : h₀.get? env.locals = none := Heap.get?_none_of_le F'.above
    have F₂ : Fr h₀ env.locals h₂ (fun z => if z = y then some (.ref D) else m z) := ⟨hn₂, fun b o e => hs₂.extBut b o (fun q => by rw [q, hL₀] at e; cases e) (F'.keep b o e), F'.above⟩
    refine ⟨m', hns.sameBut hs₂ hCL, fun h'' hs'' => done D h'' _ n' Y (fun q hq z => ?_) (F₂.change hs'' hCL hC₀) (fun q hq => ?_) fun i hi hp => hg5 i hi hp⟩
    · have := (N q hq).1
      rw [z, hD] at this; cases this
    · have z : h₂.get? q.1 = some q.2 := hs₂.extBut _ _ (N' q hq).2.1 (N' q hq).1
      refine ⟨hs''.extBut _ _ ?_ z, (N' q hq).2⟩
      rcases List.mem_cons.mp hq with rfl | hq
      · exact hne
      · intro w'
        have := (N q hq).1
        rw [w', hC] at this; cases this
end
theorem stTrans {a b c : Heap} (h : a.StaysIn b) (k : b.StaysIn c) : a.StaysIn c := fun _ _ e => k _ _ (h _ _ e)
section
variable {vfl fl : Nat → List Str} {uses : Bool} {vm ms : Nat → Int} {i : Nat}
theorem stale_t1 (h : fl i ≠ vfl i) : true = stale vfl fl uses vm ms i := by unfold stale; rw [decide_eq_false (Ne.symm h)]; rfl
theorem stale_t2 (hu : uses = true) (h : ms i ≠ vm i) : true = stale vfl fl uses vm ms i := by unfold stale; rw [decide_eq_false (Ne.symm h), hu]; simp
theorem stale_f1 (h : fl i = vfl i) (h' : ms i = vm i) : false = stale vfl fl uses vm ms i := by unfold stale; rw [decide_eq_true h.symm, decide_eq_true h'.symm]; simp
theorem stale_f2 (h : fl i = vfl i) (hu : uses = false) : false = stale vfl fl uses vm ms i := by unfold stale; rw [decide_eq_true h.symm, hu]; rfl
end
theorem choose_toks {n : Nat} {p : Nat → Bool} {Y : Nat → Value} (h : ∀ i, i < n → p i = true → ∃ t, Y i = .int ((i : Int) + 1) t) : ∃ T : Nat → Tok, ((List.range n).filter p).map Y = ((List.range n).filter p).map fun (i : Nat) => .int ((i : Int) + 1) (T i) := by
  have hT : ∀ i, ∃ t, i < n → p i = true → Y i = .int ((i : Int) + 1) t := fun i => by
    by_cases hi : i < n ∧ p i = true
    · obtain ⟨t, ht⟩ := h i hi.1 hi.2; exact ⟨t, fun _ _ => ht⟩
    · exact ⟨0, fun z1 z2 => absurd ⟨z1, z2⟩ hi⟩
  obtain ⟨T, hT⟩ := Classical.axiomOfChoice hT
  exact ⟨T, List.map_congr_left fun i hi => by
    have := List.mem_filter.mp hi
    exact hT i (List.mem_range.mp this.1) this.2⟩
theorem ints_reads {h : Heap} {T : Nat → Tok} : ∀ l : List Nat, ReadsAll h (l.map fun (i : Nat) => Value.int ((i : Int) + 1) (T i)) (l.map fun (i : Nat) => PyData.int ((i : Int) + 1)) []
  | [] => .nil
  | i :: r => ReadsAll.cons (as := []) (bs := []) (.int _ _) (ints_reads r)
theorem canAll {α : Type} {f : α → PyData} : ∀ l : List α, (∀ x ∈ l, (f x).canLay0 = true) → PyData.canLayAll0 (l.map f) = true
  | [], _ => by simp [PyData.canLayAll0]
  | x :: r, h => by
    rw [List.map_cons]
    simp only [PyData.canLayAll0, Bool.and_eq_true]
    exact ⟨h x (.head _), canAll r fun y hy => h y (.tail _ hy)⟩
theorem depthAll {α : Type} {f : α → PyData} {k : Nat} : ∀ l : List α, (∀ x ∈ l, (f x).depth ≤ k) → PyData.depthAll (l.map f) ≤ k
  | [], _ => by simp [PyData.depthAll]
  | x :: r, h => by
    rw [List.map_cons]
    simp only [PyData.depthAll]
    exact Nat.max_le.mpr ⟨h x (.head _), depthAll r fun y hy => h y (.tail _ hy)⟩
theorem shaped_list {α : Type} {f : α → PyData} {l : List α} (h : ∀ x ∈ l, (f x).canLay0 = true ∧ (f x).depth ≤ 60) : PySem.SeqAt.shaped (.list (l.map f)) = true := by
  have := depthAll (k := 60) l fun x hx => (h x hx).2
  unfold PySem.SeqAt.shaped
  simp only [PyData.canLay0, PyData.depth, Bool.and_eq_true]
  exact ⟨canAll l fun x hx => (h x hx).1, decide_eq_true (by omega)⟩
theorem shaped_tuple {α : Type} {f : α → PyData} {l : List α} (h : ∀ x ∈ l, (f x).canLay0 = true ∧ (f x).depth ≤ 60) : PySem.SeqAt.shaped (.tuple (l.map f)) = true := by
  have := depthAll (k := 60) l fun x hx => (h x hx).2
  unfold PySem.SeqAt.shaped
  simp only [PyData.canLay0, PyData.depth, Bool.and_eq_true]
  exact ⟨canAll l fun x hx => (h x hx).1, decide_eq_true (by omega)⟩
theorem same_ne {prog : Program} {w : World} {A : Around} {E : Value → Shared → Prop} {s : Shared} {a b : Value} {d : PyData} {as bs : List Addr} {Q : Value → Shared → Prop} (ra : Reads s.heap a d as) (rb : Reads s.heap b d bs) (hd' : PySem.SeqAt.shaped d = true) (hu : A.units + 64 < cLine)
    (h : Q (.bool false) s) : wpAny (model prog w) A (compareOp .NotEq a b) Q E s := by
  refine ne_dataH ra rb hd' hd' hu ?_
  have hc : d.canLay0 = true := (Bool.and_eq_true_iff.mp hd').1
  rw [PySem.SeqAt.eqv_refl d hc]
  exact h
/-- a list of the numbers of some letters -/
def NumsAt (h : Heap) (a : Addr) (l : List Nat) : Prop := ∃ (T : Nat → Tok) (e : Nat), h.get? a = some (LO (l.map fun (i : Nat) => .int ((i : Int) + 1) (T i)) e)
theorem NumsAt.up {h h' : Heap} {a : Addr} {l : List Nat} (k : h.StaysIn h') : NumsAt h a l → NumsAt h' a l := fun ⟨T, e, x⟩ => ⟨T, e, k _ _ x⟩
theorem NumsAt.reads {h : Heap} {a : Addr} {l : List Nat} : NumsAt h a l → Reads h (.ref a) (.list (l.map fun (i : Nat) => PyData.int ((i : Int) + 1))) [a] := fun ⟨T, e, x⟩ => .list x rfl rfl (ints_reads l)
theorem nums_ne {prog : Program} {w : World} {A : Around} {E : Value → Shared → Prop} {s : Shared} {a b : Addr} {l : List Nat} {Q : Value → Shared → Prop} (ha : NumsAt s.heap a l) (hb : NumsAt s.heap b l) (hu : A.units + 64 < cLine) (h : Q (.bool false) s) : wpAny (model prog w) A (compareOp .NotEq (.ref a) (.ref b)) Q E s :=
  same_ne ha.reads hb.reads (shaped_list fun x _ => ⟨by simp [PyData.canLay0], by simp [PyData.depth]⟩) hu h
theorem strs_reads {h : Heap} {a : Addr} {f : List Str} (x : FlAt h a f) : Reads h (.ref a) (.tuple (f.map PyData.str)) [] := x.reads
abbrev toldD (n : Nat) (vfl : Nat → List Str) (vm : Nat → Int) : PyData := .tuple ((List.range n).map fun (i : Nat) => .tuple [.int ((i : Int) + 1), .tuple ((vfl i).map PyData.str), .int (vm i)])
theorem reads_map {α : Type} {h : Heap} {f : α → Value} {d : α → PyData} : ∀ l : List α, (∀ x ∈ l, Reads h (f x) (d x) []) → ReadsAll h (l.map f) (l.map d) []
  | [], _ => .nil
  | x :: r, q => by
    rw [List.map_cons, List.map_cons]
    exact ReadsAll.cons (as := []) (bs := []) (q x (.head _)) (reads_map r fun y hy => q y (.tail _ hy))
theorem ToldAt.reads {h : Heap} {D : Addr} {n : Nat} {va : Nat → Addr} {vm : Nat → Int} {vfl : Nat → List Str} (x : ToldAt h D n va vm) (f : FlagsIn h n va vfl) : Reads h (.ref D) (toldD n vfl vm) [] := by
  obtain ⟨Y, ⟨e, z⟩, y⟩ := x
  refine .tuple z rfl rfl (reads_map _ fun i hi => ?_)
  obtain ⟨ti, tm, e', z'⟩ := y i (List.mem_range.mp hi)
  exact .tuple z' rfl rfl (ReadsAll.cons (as := []) (bs := []) (.int _ _) (ReadsAll.cons (as := []) (bs := []) (f.at (List.mem_range.mp hi)).reads (ReadsAll.cons (as := []) (bs := []) (.int _ _) .nil)))
theorem strs_can {f : List Str} (hf : IsFl f) : PyData.canLayAll0 (f.map PyData.str) = true := by
  rcases hf with rfl | rfl | rfl | rfl <;> decide +kernel
theorem strs_depth (f : List Str) : PyData.depthAll (f.map PyData.str) ≤ 1 := depthAll f fun _ _ => by simp [PyData.depth]
theorem toldD_shaped {n : Nat} {vfl : Nat → List Str} {vm : Nat → Int} (hf : ∀ i, i < n → IsFl (vfl i)) : PySem.SeqAt.shaped (toldD n vfl vm) = true := shaped_tuple fun i hi => by
  have b := strs_depth (vfl i)
  refine ⟨by simp [PyData.canLay0, PyData.canLayAll0, strs_can (hf i (List.mem_range.mp hi))], ?_⟩
  simp only [PyData.depth, PyData.depthAll]
  generalize PyData.depthAll _ = d at b
  rcases Nat.le_one_iff_eq_zero_or_eq_one.mp b with rfl | rfl <;> decide
theorem told_ne {prog : Program} {w : World} {A : Around} {E : Value → Shared → Prop} {s : Shared} {a b : Addr} {n : Nat} {va : Nat → Addr} {vm : Nat → Int} {vfl : Nat → List Str} {Q : Value → Shared → Prop} (ha : ToldAt s.heap a n va vm) (hb : ToldAt s.heap b n va vm) (f : FlagsIn s.heap n va vfl) (hu : A.units + 64 < cLine) (h : Q (.bool false) s) :
    wpAny (model prog w) A (compareOp .NotEq (.ref a) (.ref b)) Q E s := same_ne (ha.reads f) (hb.reads f) (toldD_shaped fun i hi => f.is hi) hu h
/-- the law's constants -/
structure LC where
  (c pen x bd ll bk view ul fd md : Addr) (sm : Int) (t2 : Tok) (uses : Bool) (vs : List Value) (ns : List Int) (o1 o2 o3 o4 : Obj) (n : Nat)
/-- the law's state: letters (l, tuples tp, flags fl, modseqs ms), the view's known ones (va, vfl, vm), the book's tuples bt -/
structure LV where
  (nx top : Int) (l tp bt va : Nat → Addr) (ms vm : Nat → Int) (vt : Nat → Tok) (fl vfl : Nat → List Str)
abbrev LC.adr (C : LC) (L : Addr) : List Addr := [C.pen, C.bd, C.ll, C.bk, C.fd, C.md, L + 1 + 1 + 1 + 1, L + 1 + 1 + 1, L + 1 + 1, L + 1]
structure LK (C : LC) (L : Addr) : Prop where
  ap : Apart (C.adr L)
  d1 : C.o1.data = .cell (some (.ref C.x))
  d2 : C.o2.data = .cell (some (.ref C.bk))
  d3 : C.o3.data = .cell (some (.bool C.uses))
  d4 : C.o4.data = .cell (some (.ref C.view))
  lf : (C.fd == sysModules) = false
  lm : (C.md == sysModules) = false
  lb : (C.bk == sysModules) = false
  n1 : 1 ≤ C.n
  n5 : C.n ≤ 5
  hi : IntsAre C.vs C.ns
  hl : C.ns.length ≤ 63
/-- what stands in a heap of the unchanging -/
structure GF (C : LC) (V : LV) (G : Heap) : Prop where
  c : G.IsList C.c C.vs.toArray
  x : G.get? C.x = some (instObj 277 C.bd)
  v : ViewAt G C.view C.x C.ul C.fd C.md C.uses
  u : UidsAt G C.ul C.n
  l : LettersIn G C.n V.l V.tp V.ms
  f : FlagsIn G C.n V.tp V.fl
  g : FlagsIn G C.n V.va V.vfl
  b : BookIn G C.n V.bt V.va V.vm
theorem GF.up {C : LC} {V : LV} {G G' : Heap} (k : G.StaysIn G') (x : GF C V G) : GF C V G' :=
  ⟨x.c.at fun o q => k _ _ q, k _ _ x.x, x.v.up k, x.u.up k, x.l.up k, x.f.up k, x.g.up k, x.b.up k⟩
/-- the ledger's objects -/
structure LO' (w : World) (C : LC) (V : LV) (o ok of om : Obj) : Prop where
  b : BoxD C.ll V.nx V.top o
  k : DictO w C.n (fun j => .ref (V.bt j)) ok
  f : DictO w C.n (fun j => .ref (V.va j)) of
  m : DictO w C.n (fun j => .int (V.vm j) (V.vt j)) om
abbrev LC.led (C : LC) (L : Addr) (V : LV) (spot : Int) (t1 : Tok) (np e : Nat) (o ok of om : Obj) : List (Addr × Obj) :=
  [(C.pen, LO [.ref C.c, .int spot t1, .int C.sm C.t2] np), (C.bd, o), (C.ll, LO ((List.range C.n).map fun j => .ref (V.l j)) e), (C.bk, ok), (C.fd, of), (C.md, om), (L + 1 + 1 + 1 + 1, C.o4), (L + 1 + 1 + 1, C.o3), (L + 1 + 1, C.o2), (L + 1, C.o1)]
inductive LS (w : World) (h₀ : Heap) (L : Addr) (C : LC) (b : Nat) (nw : List (Addr × Obj)) : Prop
  | mk (V : LV) (G : Heap) (TL : List (Addr × Obj)) (o ok of om : Obj) (np e : Nat) (spot : Int) (t1 : Tok) (q0 : nw = C.led L V spot t1 np e o ok of om ++ TL) (q1 : Im h₀ G TL) (q2 : Off G (C.adr L)) (q3 : GF C V G) (q4 : LO' w C V o ok of om) (q5 : 0 ≤ spot) (q6 : spot ≤ b) (q7 : 0 ≤ V.top) (q8 : V.top ≤ b) : LS w h₀ L C b nw
theorem LS.elim {w : World} {h₀ : Heap} {L : Addr} {C : LC} {b : Nat} {nw : List (Addr × Obj)} (J : LS w h₀ L C b nw) {P : Prop} (k : ∀ (V : LV) (G : Heap) (TL : List (Addr × Obj)) (o ok of om : Obj) (np e : Nat) (spot : Int) (t1 : Tok), nw = C.led L V spot t1 np e o ok of om ++ TL → Im h₀ G TL → Off G (C.adr L) → GF C V G → LO' w C V o ok of om → 0 ≤ spot → spot ≤ b → 0 ≤ V.top → V.top ≤ b → P) : P := by
  obtain ⟨V, G, TL, o, ok, of, om, np, e, spot, t1, q0, q1, q2, q3, q4, q5, q6, q7, q8⟩ := J
  exact k V G TL o ok of om np e spot t1 q0 q1 q2 q3 q4 q5 q6 q7 q8
/-- all of it in one heap -/
structure LH (w : World) (C : LC) (V : LV) (H : Heap) : Prop where
  x : BoxAt H C.x C.bd C.ll V.nx V.top
  l : LettersAt H C.ll C.n V.l V.tp V.ms
  f : FlagsIn H C.n V.tp V.fl
  g : FlagsIn H C.n V.va V.vfl
  v : ViewAt H C.view C.x C.ul C.fd C.md C.uses
  u : UidsAt H C.ul C.n
  df : DictI w H C.fd C.n fun j => .ref (V.va j)
  dm : DictI w H C.md C.n fun j => .int (V.vm j) (V.vt j)
  dk : DictI w H C.bk C.n fun j => .ref (V.bt j)
  b : BookIn H C.n V.bt V.va V.vm
theorem LH.mk' {w : World} {h₀ h G : Heap} {L : Addr} {m : Str → Option Value} {news TL : List (Addr × Obj)} {C : LC} {V : LV} {o ok of om : Obj} {np e : Nat} {spot : Int} {t1 : Tok} (K : LK C L) (I : Im h₀ G TL) (F : Fr h₀ L h m) (N : News h₀ L h news) (sub : ∀ p ∈ C.led L V spot t1 np e o ok of om ++ TL, p ∈ news) (g : GF C V G) (p : LO' w C V o ok of om) : LH w C V h := by
  have GS := I.stays F N fun p hp => sub p (List.mem_append_right _ hp)
  have at' : ∀ q ∈ C.led L V spot t1 np e o ok of om, h.get? q.1 = some q.2 := fun q hq => (N q (sub q (List.mem_append_left _ hq))).1
  have g' := g.up GS
  exact ⟨⟨g'.x, _, at' (C.bd, o) (.tail _ (.head _)), p.b⟩, ⟨⟨e, at' (C.ll, _) (.tail _ (.tail _ (.head _)))⟩, g'.l⟩, g'.f, g'.g, g'.v, g'.u,
    DictI.of (at' (C.fd, of) (by k_mem)) p.f K.lf, DictI.of (at' (C.md, om) (by k_mem)) p.m K.lm, DictI.of (at' (C.bk, ok) (by k_mem)) p.k K.lb, g'.b⟩
theorem LH.up {w : World} {C : LC} {V : LV} {H H' : Heap} (k : H.StaysIn H') (x : LH w C V H) : LH w C V H' :=
  ⟨x.x.up k, x.l.up k, x.f.up k, x.g.up k, x.v.up k, x.u.up k, x.df.up k, x.dm.up k, x.dk.up k, x.b.up k⟩
section
variable {w : World} {A : Around} {E : Value → Shared → Prop} {s : Shared} {Q : Value → Shared → Prop} {n i : Nat} {f : Nat → Value} {t : Tok}
theorem dict_itemN {d : Addr} {value slice : Expr} (hD : DictI w s.heap d n f) (hi : i < n) (h : Q (f i) { s with toks := s.toks + 1 })
    (hs : subscripted slice false (.ref d) (.int ((i : Int) + 1) t) = operate [.ref d, .int ((i : Int) + 1) t] (getItem (.ref d) (.int ((i : Int) + 1) t)) := by with_unfolding_all rfl) (hg : ∀ r, letTemporaryGo value (.ref d) r = pure () := by intro _; with_unfolding_all rfl) :
    wpAny (model PG w) A (subscriptTail value slice (.ref d) (.int ((i : Int) + 1) t)) Q E s := by
  have e : ((i : Int) + 1 - 1).toNat = i := by omega
  refine dict_item hD (by omega) (by omega) ?_ hs hg
  rw [e]; exact h
theorem tup_item {a : Addr} {vs : List Value} {value slice : Expr} {k : Int} {v : Value} {j : Nat} (hT : TupAt s.heap a vs) (h0 : 0 ≤ k) (h1 : k ≤ 10) (hj : seqIndex? k vs.length = some j) (hv : vs[j]? = some v) (h : Q v s)
    (hs : subscripted slice false (.ref a) (.int k t) = operate [.ref a, .int k t] (getItem (.ref a) (.int k t)) := by with_unfolding_all rfl) :
    wpAny (model PG w) A (subscriptTail value slice (.ref a) (.int k t)) Q E s := by
  obtain ⟨m, e⟩ := hT
  exact item_tupleT (l := vs) ⟨_, e, rfl, m, rfl⟩ (by omega) (by omega) hj hv h hs
theorem book_item0 {bt va : Nat → Addr} {vm : Nat → Int} {value slice : Expr} {k : Int} (hk : k = 0) (hB : BookIn s.heap n bt va vm) (hi : i < n) (h : Q (.ref (va i)) s)
    (hs : subscripted slice false (.ref (bt i)) (.int k t) = operate [.ref (bt i), .int 0 t] (getItem (.ref (bt i)) (.int k t)) := by with_unfolding_all rfl) :
    wpAny (model PG w) A (subscriptTail value slice (.ref (bt i)) (.int k t)) Q E s := by
  subst hk
  obtain ⟨u, hT⟩ := hB i hi
  exact tup_item hT (by decide) (by decide) rfl rfl h hs
theorem book_item1 {bt va : Nat → Addr} {vm : Nat → Int} {value slice : Expr} {k : Int} (hk : k = 1) (hB : BookIn s.heap n bt va vm) (hi : i < n) (h : ∀ t', Q (.int (vm i) t') s)
    (hs : subscripted slice false (.ref (bt i)) (.int k t) = operate [.ref (bt i), .int 1 t] (getItem (.ref (bt i)) (.int k t)) := by with_unfolding_all rfl) :
    wpAny (model PG w) A (subscriptTail value slice (.ref (bt i)) (.int k t)) Q E s := by
  subst hk
  obtain ⟨u, hT⟩ := hB i hi
  exact tup_item hT (by decide) (by decide) rfl rfl (h u) hs
end
local macro_rules | `(tactic| walk_at "subscriptTail Subscript Name Name Constant ref int") => `(tactic| (k_here; (with_reducible show wpAny _ _ (subscriptTail _ _ (Value.ref _) (Value.int _ _)) _ _ _); k_dflt (refine book_item0 (by decide) (BookIn.up (Fr.keep (by with_reducible assumption)) (by with_reducible assumption)) (by with_reducible assumption) ?_)))
local macro_rules | `(tactic| walk_at "subscriptTail Subscript Name Name Constant ref int") => `(tactic| (k_here; (with_reducible show wpAny _ _ (subscriptTail _ _ (Value.ref _) (Value.int _ _)) _ _ _); k_dflt (refine book_item1 (by decide) (BookIn.up (Fr.keep (by with_reducible assumption)) (by with_reducible assumption)) (by with_reducible assumption) ?_; intro t')))
local macro_rules | `(tactic| walk_at "subscriptTail") => `(tactic| (k_here; (with_reducible show wpAny _ _ (subscriptTail _ _ (Value.ref _) (Value.int ((_ : Int) + 1) _)) _ _ _); k_dflt (refine dict_itemN (by walk_at "my dict") (by with_reducible assumption) ?_)))
local macro_rules | `(tactic| walk_at "call builtin:sorted") => `(tactic| (k_here; k_dflt (refine sorted_dict rfl (by assumption) (by assumption) (News.get (by assumption) (by k_mem)) (by assumption) (by assumption) (by assumption) (by omega) ?_; intro D' h' tk' T' F' N' l1 kp; (try k_lt l1); (try k_sweep))))
section PartLawC
noncomputable def tailBody : List Stmt := deedBody.drop 3
local macro_rules | `(tactic| walk_at "exec Assign cons ListComp") => `(tactic| (k_here; k_dflt (refine' cp_assign ?w ?c ?k ?n ?_ ?s; (case w => with_unfolding_all rfl); (case c => exact rfl); (case k => rfl); (case n => decide); (case s => (intro _; rfl)))))
noncomputable def tail2Body : List Stmt := deedBody.drop 4
local macro_rules | `(tactic| walk_at "compareOp NotEq ref ref") => `(tactic| (k_here; k_dflt (refine nums_ne ⟨_, _, News.get (by with_reducible assumption) (by k_mem)⟩ ⟨_, _, News.get (by with_reducible assumption) (by k_mem)⟩ (by walk_at "my units") ?_)))
local macro_rules | `(tactic| walk_at "compareOp Eq ref ref") => `(tactic| (k_here; k_dflt (refine nil_eq (News.get (by with_reducible assumption) (by k_mem)) (News.get (by with_reducible assumption) (by k_mem)) (by walk_at "my units") ?_)))
local macro_rules | `(tactic| walk_at "newTuple") => `(tactic| (k_here; k_dflt (refine new_tuple ?_ (by simp); intro D' h' k' f' g'; (have F'' := Fr.keeps (by with_reducible assumption) k'); (try k_sweep); (try dsimp only))))
theorem deed_tail2 {w : World} {mg mb : Str → Option Value} {dep un : Nat} {fr : Option (List Env)} {gd : Option (List Code)} {h₀ h G : Heap} {gens : Array GenState} {drawn : Drawn} {os : OsState} {tk : Nat} {L fa D₂ : Addr} {cd : Value} {C : LC} {V : LV} {io o ok of om : Obj} {np e e₂ : Nat} {spot : Int} {t1 : Tok} {T₂ : Nat → Tok} {m : Str → Option Value} {TL : List (Addr × Obj)} {I : Addr} {Q : Flow → Shared → Prop}
    (X : (heapK w.params).In h₀) (T : TopRead VG LG mg mb h₀) (hA : dep < 800) (hU : un < 100) (K : LK C L) (hIm : Im h₀ G TL) (hG : GF C V G) (hO : LO' w C V o ok of om) (F : Fr h₀ L h (fun z => if z = Str.ofString "stale" then some (.ref D₂) else m z))
    (N : News h₀ L h ((D₂, LO (((List.range C.n).filter (stale V.vfl V.fl C.uses V.vm V.ms)).map fun (i : Nat) => .int ((i : Int) + 1) (T₂ i)) e₂) :: (I, io) :: (C.led L V spot t1 np e o ok of om ++ TL))) (n2 : ∀ q ∈ (I, io) :: (C.led L V spot t1 np e o ok of om ++ TL), q.1 ≠ D₂)
    (k : ∀ h' tk' m', Fr h₀ L h' m' → News h₀ L h' ((I, io) :: (C.led L V spot t1 np e o ok of om ++ TL)) → m' (Str.ofString "pen") = m (Str.ofString "pen") → Q .next ⟨h', gens, drawn, tk', os⟩) :
    wpAny (model PG w) (AR dep fr gd un) (execs tail2Body (lawEnv L fa cd)) Q (fun _ _ => False) ⟨h, gens, drawn, tk, os⟩ := by
  obtain ⟨ap, d1, d2, d3, d4, lf, lm, lb, n1, n5, hi, hl⟩ := id K
  show wpAny _ _ (execs (_ :: _) (envOfC _ { kind := _, names := _, isGenerator := _, isCoroutine := _, more := _ } _ _ _)) _ _ _
  have N₀ : News h₀ L h ((D₂, LO (((List.range C.n).filter (stale V.vfl V.fl C.uses V.vm V.ms)).map fun (i : Nat) => .int ((i : Int) + 1) (T₂ i)) e₂) :: (I, io) :: (C.pen, LO [.ref C.c, .int spot t1, .int C.sm C.t2] np) :: (C.bd, o) :: (C.ll, LO ((List.range C.n).map fun j => .ref (V.l j)) e) :: (C.bk, ok) :: (C.fd, of) :: (C.md, om) :: (L + 1 + 1 + 1 + 1, C.o4) :: (L + 1 + 1 + 1, C.o3) :: (L + 1 + 1, C.o2) :: (L + 1, C.o1) :: TL) := N
  clear N
  have n100 : C.n ≤ 100 := Nat.le_trans n5 (by decide)
  have hdk := hO.k
  walk_at "my steps"
  rename Fr _ _ _ _ => Fc
  rename News _ _ _ _ => Nc
  rename_i D₁ h₁' tk₁' T₁ kp₁ l₁'
  clear kp₁
  have X₁ := X.keeps Fc.keep
  have T₁' := T.keeps Fc.keep
  have hH : LH w C V h₁' := LH.mk' K hIm Fc Nc (fun p hp => .tail _ (.tail _ (.tail _ hp))) hG hO
  obtain ⟨hx₁, hl₁, hf₁, hg₁, hv₁, hu₁, hdf₁, hdm₁, hdk₁, hb₁⟩ := id hH
  refine cp_filter (l := D₁) (items := ((List.range C.n).map fun (i : Nat) => Value.int ((i : Int) + 1) (T₁ i)).toArray) (.inl ⟨_, Nc.get (.head _), rfl, 2, rfl⟩) rfl (by simp; omega) (by decide) rfl rfl (stale V.vfl V.fl C.uses V.vm V.ms) (fun i y _ => ∃ t, y = .int ((i : Int) + 1) t) (fun _ _ _ _ _ e => e) ?_ ?_ ?_
  · intro C' i v hh tk m hv F₂ hm
    obtain ⟨hi, rfl⟩ := uids_item hv
    have kk := F₂.keep
    walk_at "my steps"
    rename Fr _ _ _ _ => Fe
    k_dflt (refine isStale_specN (Bs.at X₁ T₁' Fe) (by omega) (by omega) (hv₁.up Fe.keep) ((hl₁.le i hi).up Fe.keep) (hf₁.is hi) ((hf₁.up Fe.keep).at hi) (hdf₁.up Fe.keep) (hdm₁.up Fe.keep) (hg₁.up Fe.keep) n100 hi ?_)
    intro h' tk' k'
    walk_at "my steps"
    exact TestEnd.intro rfl (stTrans (by assumption) k')
  · intro C' i v hh tk m hp hv F₂ hm
    obtain ⟨hi, rfl⟩ := uids_item hv
    walk_at "my steps"
    exact EltEnd.intro (fun _ _ e => e) ⟨_, rfl⟩
  · intro D₃ h₃ tk₃ e₃ Y k₃ n₃ g₃ hY
    have e0 : ((List.range C.n).map fun (i : Nat) => Value.int ((i : Int) + 1) (T₁ i)).toArray.size = C.n := by simp
    rw [e0] at g₃ hY
    obtain ⟨T₃, eT₃⟩ := choose_toks hY
    rw [eT₃] at g₃
    have F₃ := Fr.keeps Fc k₃
    have N₃ := newsAdd Fc Nc k₃ n₃ g₃
    clear hx₁ hl₁ hf₁ hg₁ hv₁ hu₁ hdf₁ hdm₁ hdk₁ hb₁ X₁ T₁' hH Fc Nc hY eT₃ e0 g₃ k₃
    walk_at "my steps"
    rename Fr _ _ _ _ => Fd
    rename News _ _ _ _ => Nd
    have hH : LH w C V h₃ := LH.mk' K hIm Fd Nd (fun p hp => .tail _ (.tail _ (.tail _ (.tail _ hp)))) hG hO
    k_dflt (refine upTo_spec (Bs.at X T Fd) (by omega) (by omega) hH.v hH.x hH.l hH.f hH.u hH.df hH.dm hH.g n100 ?_)
    intro h₄ tk₄ k₄
    have F₄ := Fr.keeps Fd k₄
    have N₄ := News.grown Nd k₄
    have n32 : ∀ q ∈ [(D₁, LO ((List.range C.n).map fun (i : Nat) => .int ((i : Int) + 1) (T₁ i)) 2), (D₂, LO (((List.range C.n).filter (stale V.vfl V.fl C.uses V.vm V.ms)).map fun (i : Nat) => .int ((i : Int) + 1) (T₂ i)) e₂)], True := fun _ _ => trivial
    clear Fd Nd hH k₄ n32
    walk_at "my steps"
    · exfalso
      rename_i q
      rw [filter_empty] at q
      simp at q
    · rename Fr _ _ _ _ => Fg
      rename News _ _ _ _ => Ng
      rename_i De h₅ le q
      clear q le
      have hV := hG.v.up (hIm.stays Fg Ng (fun p hp => by simp only [List.mem_cons]; simp [hp]))
      k_dflt (refine view_meth_told X Fg hV ?_)
      walk_at "my steps"
      have LL : ∃ o, h₅.get? L = some o := let ⟨o, _, _, z, _⟩ := Fg.ns; ⟨o, z⟩
      have hH : LH w C V h₅ := LH.mk' K hIm Fg Ng (fun p hp => .tail _ (.tail _ (.tail _ (.tail _ (.tail _ hp))))) hG hO
      k_dflt (refine told_spec (Bs.at X T Fg) (by omega) hH.v hH.u hH.df hH.dm n100 ?_)
      intro h₆ tk₆ D₆ k₆ n₆ t₆
      have hT := t₆ (bare h₀)
      have hHs : (grow (bare h₀) h₅ h₆).StaysIn h₆ := grow_sub
      have hHL : (grow (bare h₀) h₅ h₆).get? L = none := let ⟨o, z⟩ := LL; grow_none bare_none z
      have F₆ := Fr.keeps Fg k₆
      have N₆ := News.grown Ng k₆
      clear Fg Ng hH k₆ LL hV n₆ t₆
      generalize grow (bare h₀) h₅ h₆ = H at *
      walk_at "my steps"
      rename Fr _ _ _ _ => Fi
      rename News _ _ _ _ => Ni
      rename_i D₇ h₇ tk₇ T₇ kp₇ l₇
      have hH7 : H.StaysIn h₇ := fun a o e => kp₇ a o (fun z => by rw [z, hHL] at e; cases e) (hHs _ _ e)
      have hH : LH w C V h₇ := LH.mk' K hIm Fi Ni (fun p hp => .tail _ (.tail _ (.tail _ (.tail _ (.tail _ (.tail _ hp)))))) hG hO
      have X₁ := X.keeps Fi.keep
      have T₁' := T.keeps Fi.keep
      have hdk₁ := hH.dk
      have hb₁ := hH.b
      have hg₇ := hH.g
      clear kp₇ l₇ hHs hHL hdk
      refine cp_map (l := D₇) (items := ((List.range C.n).map fun (i : Nat) => Value.int ((i : Int) + 1) (T₇ i)).toArray) (.inl ⟨_, Ni.get (.head _), rfl, 2, rfl⟩) rfl (by simp; omega) (by decide) rfl rfl (fun i y h => ∃ a, y = .ref a ∧ ∃ ti tm, TupAt h a [.int ((i : Int) + 1) ti, .ref (V.va i), .int (V.vm i) tm]) (fun i y h h' kk ⟨a, e, ti, tm, z⟩ => ⟨a, e, ti, tm, z.up kk⟩) ?_ ?_
      · intro C' i v hh tk m hv F₂ hm
        obtain ⟨hi, rfl⟩ := uids_item hv
        have kk := F₂.keep
        walk_at "my steps"
        rename_i D' h' k' f' g' F''
        exact EltEnd.intro k' ⟨D', rfl, _, _, 0, grow_new g' f'⟩
      · intro al h₈ tk₈ n₈ Y k₈ hal hget hY
        have e0 : ((List.range C.n).map fun (i : Nat) => Value.int ((i : Int) + 1) (T₇ i)).toArray.size = C.n := by simp
        rw [e0] at hget hY
        obtain ⟨Z, hZ, eZ⟩ := choose_refs hY
        rw [eZ] at hget
        have F₈ := Fr.keeps Fi k₈
        have N₈ := News.grown Ni k₈
        clear Fi Ni hY X₁ T₁' hdk₁ hb₁ hH
        walk1
        k_dflt (refine tuple_of hget ?_ (by simp; omega))
        intro D₉ h₉ k₉ n₉ g₉
        have F₉ := Fr.keeps F₈ k₉
        have N₉ := News.grown N₈ k₉
        have k79 := stTrans k₈ k₉
        k_dflt (refine told_ne (hT.up (stTrans hH7 k79)) ⟨Z, ⟨0, g₉⟩, fun i hi => ?_⟩ (hg₇.up k79) (by walk_at "my units") ?_)
        · obtain ⟨ti, tm, z⟩ := hZ i hi
          exact ⟨ti, tm, z.up k₉⟩
        · clear F₈ N₈ hT hH7 hg₇ hZ hget
          walk_at "my steps"
          exact k _ _ _ F₉ (fun p hp => N₉ p (.tail _ (.tail _ (.tail _ (.tail _ (.tail _ hp)))))) (if_neg (by decide))
end PartLawC
section PartLawD
local macro_rules | `(tactic| walk_at "exec Assign cons ListComp") => `(tactic| (k_here; k_dflt (refine' cp_assign ?w ?c ?k ?n ?_ ?s; (case w => with_unfolding_all rfl); (case c => exact rfl); (case k => rfl); (case n => decide); (case s => (intro _; rfl)))))
theorem deed_tail {w : World} {mg mb : Str → Option Value} {dep un : Nat} {fr : Option (List Env)} {gd : Option (List Code)} {h₀ h : Heap} {gens : Array GenState} {drawn : Drawn} {os : OsState} {tk : Nat} {L fa : Addr} {cd : Value} {C : LC} {b : Nat} {io : Obj} {m : Str → Option Value} {nw : List (Addr × Obj)} {I : Addr} {Q : Flow → Shared → Prop} {s₁ : Shared}
    (X : (heapK w.params).In h₀) (T : TopRead VG LG mg mb h₀) (hA : dep < 800) (hU : un < 100) (K : LK C L) (S : LS w h₀ L C b nw) (ne : ∀ p ∈ nw, p.1 ≠ I) (F : Fr h₀ L h m) (N : News h₀ L h ((I, io) :: nw))
    (k : ∀ h' tk' m', Fr h₀ L h' m' → News h₀ L h' ((I, io) :: nw) → m' (Str.ofString "pen") = m (Str.ofString "pen") → Q .next ⟨h', gens, drawn, tk', os⟩) :
    wpAny (model PG w) (AR dep fr gd un) (execs tailBody (lawEnv L fa cd)) Q (fun _ _ => False) ⟨h, gens, drawn, tk, os⟩ := by
  refine LS.elim S ?_
  clear S
  intro V G TL o ok of om np e spot t1 zq11 hIm off hG hO s0 s1 p0 p1
  subst zq11
  obtain ⟨ap, d1, d2, d3, d4, lf, lm, lb, n1, n5, hi, hl⟩ := id K
  show wpAny _ _ (execs (_ :: _) (envOfC _ { kind := _, names := _, isGenerator := _, isCoroutine := _, more := _ } _ _ _)) _ _ _
  have N₀ : News h₀ L h ((I, io) :: (C.pen, LO [.ref C.c, .int spot t1, .int C.sm C.t2] np) :: (C.bd, o) :: (C.ll, LO ((List.range C.n).map fun j => .ref (V.l j)) e) :: (C.bk, ok) :: (C.fd, of) :: (C.md, om) :: (L + 1 + 1 + 1 + 1, C.o4) :: (L + 1 + 1 + 1, C.o3) :: (L + 1 + 1, C.o2) :: (L + 1, C.o1) :: TL) := N
  clear N
  have hdk := hO.k
  walk_at "my steps"
  rename Fr _ _ _ _ => Fc
  rename News _ _ _ _ => Nc
  rename_i D₁ h₁' tk₁' T₁ kp₁ l₁'
  clear kp₁
  have X₁ := X.keeps Fc.keep
  have T₁' := T.keeps Fc.keep
  have hH : LH w C V h₁' := LH.mk' K hIm Fc Nc (fun p hp => .tail _ (.tail _ hp)) hG hO
  obtain ⟨hx₁, hl₁, hf₁, hg₁, hv₁, hu₁, hdf₁, hdm₁, hdk₁, hb₁⟩ := id hH
  have n100 : C.n ≤ 100 := Nat.le_trans n5 (by decide)
  refine cp_filterA (l := D₁) (items := ((List.range C.n).map fun (i : Nat) => Value.int ((i : Int) + 1) (T₁ i)).toArray) (.inl ⟨_, Nc.get (.head _), rfl, 2, rfl⟩) rfl (by simp; omega) (by decide) rfl rfl rfl rfl Fc Nc (stale V.vfl V.fl C.uses V.vm V.ms) (fun i y => ∃ t, y = .int ((i : Int) + 1) t) ?_ ?_ ?_
  · intro C' i v hh tk m hv F₂ hm
    obtain ⟨hi, rfl⟩ := uids_item hv
    have kk := F₂.keep
    walk_at "my steps"
    all_goals
      refine TestEnd.intro ?_ (by first | assumption | exact stTrans (by assumption) (by assumption))
      first | exact stale_t1 (by assumption) | exact stale_t2 (by assumption) (by assumption) | exact stale_f1 (by assumption) (by assumption) | exact stale_f2 (by assumption) (by assumption)
  · intro C' i v hh tk m hp hv F₂ hm
    obtain ⟨hi, rfl⟩ := uids_item hv
    walk_at "my steps"
    exact EltEnd.intro (fun _ _ e => e) ⟨_, rfl⟩
  · intro D₂ h₂ tk₂ e₂ Y nD F₂ N₂ hY
    have e0 : ((List.range C.n).map fun (i : Nat) => Value.int ((i : Int) + 1) (T₁ i)).toArray.size = C.n := by simp
    rw [e0] at N₂ hY
    obtain ⟨T₂, eT₂⟩ := choose_toks hY
    rw [eT₂] at N₂
    clear hx₁ hl₁ hf₁ hg₁ hv₁ hu₁ hdf₁ hdm₁ hdk₁ hb₁ X₁ T₁' hH Fc Nc hY eT₂ e0
    have N₂' : News h₀ L h₂ ((D₂, LO (((List.range C.n).filter (stale V.vfl V.fl C.uses V.vm V.ms)).map fun (i : Nat) => .int ((i : Int) + 1) (T₂ i)) e₂) :: (I, io) :: (C.led L V spot t1 np e o ok of om ++ TL)) := fun p hp => by
      rcases List.mem_cons.mp hp with rfl | hp
      · exact N₂ _ (.head _)
      · exact N₂ p (.tail _ (.tail _ hp))
    exact deed_tail2 X T hA hU K hIm hG hO F₂ N₂' (fun q hq => nD q (.tail _ hq)) k
end PartLawD
noncomputable def ifStmt : Stmt := (deedBody[2]?).getD default
theorem way0 {w : World} {mg mb : Str → Option Value} {dep un : Nat} {fr : Option (List Env)} {gd : Option (List Code)} {h₀ h G : Heap} {gens : Array GenState} {drawn : Drawn} {os : OsState} {tk : Nat} {L fa : Addr} {cd : Value} {C : LC} {V : LV} {io o ok of om : Obj} {np e b j : Nat} {spot : Int} {t1 tu tw : Tok} {mm : Str → Option Value} {TL : List (Addr × Obj)} {I : Addr} {Q : Flow → Shared → Prop}
    (X : (heapK w.params).In h₀) (T : TopRead VG LG mg mb h₀) (hA : dep < 800) (hU : un < 100) (K : LK C L) (hIm : Im h₀ G TL) (off : Off G (C.adr L)) (hG : GF C V G) (hO : LO' w C V o ok of om) (s0 : 0 ≤ spot) (s1 : spot ≤ b) (p0 : 0 ≤ V.top) (p1 : V.top ≤ b) (hb : b ≤ 500) (hj : j < C.n)
    (F : Fr h₀ L h (fun y => if y = Str.ofString "letter" then some (.ref (V.l j)) else if y = Str.ofString "uid" then some (.int ((j : Int) + 1) tu) else if y = Str.ofString "way" then some (.int 0 tw) else if y = Str.ofString "pen" then some (.ref C.pen) else mm y))
    (N : News h₀ L h ((I, io) :: (C.led L V spot t1 np e o ok of om ++ TL))) (ne : ∀ q ∈ C.led L V spot t1 np e o ok of om ++ TL, q.1 ≠ I)
    (k : ∀ h' tk' m' nw', Fr h₀ L h' m' → News h₀ L h' ((I, io) :: nw') → (∀ q ∈ nw', q.1 ≠ I) → LS w h₀ L C (b + 1) nw' → m' (Str.ofString "pen") = some (.ref C.pen) → Q .next ⟨h', gens, drawn, tk', os⟩) :
    wpAny (model PG w) (AR dep fr gd un) (exec ifStmt (lawEnv L fa cd)) Q (fun _ _ => False) ⟨h, gens, drawn, tk, os⟩ := by
  obtain ⟨ap, d1, d2, d3, d4, lf, lm, lb, n1, n5, hi, hl⟩ := id K
  refine Apart.elim10 ap ?_
  intro a12 a13 a14 a15 a16 a17 a18 a19 a1a a23 a24 a25 a26 a27 a28 a29 a2a a34 a35 a36 a37 a38 a39 a3a a45 a46 a47 a48 a49 a4a a56 a57 a58 a59 a5a a67 a68 a69 a6a a78 a79 a7a a89 a8a a9a
  have nI := allNeA_of ne (C.led L V spot t1 np e o ok of om) (fun p hp => List.mem_append_left TL hp)
  refine AllNeA.elim10 nI ?_
  intro b1 b2 b3 b4 b5 b6 b7 b8 b9 ba
  have n100 : C.n ≤ 100 := Nat.le_trans n5 (by decide)
  have gI : G.get? I = none := hIm.off (m := fun _ => none) N (.head _) fun p hp => ne p (List.mem_append_right _ hp)
  have f1 : G.get? C.pen = none := off _ (.head _)
  have f2 : G.get? C.bd = none := off _ (by k_mem)
  have f3 : G.get? C.ll = none := off _ (by k_mem)
  have f4 : G.get? C.bk = none := off _ (by k_mem)
  have f5 : G.get? C.fd = none := off _ (by k_mem)
  have f6 : G.get? C.md = none := off _ (by k_mem)
  have f7 : G.get? (L + 1 + 1 + 1 + 1) = none := off _ (by k_mem)
  have f8 : G.get? (L + 1 + 1 + 1) = none := off _ (by k_mem)
  have f9 : G.get? (L + 1 + 1) = none := off _ (by k_mem)
  have fa' : G.get? (L + 1) = none := off _ (by k_mem)
  obtain ⟨gc, gx, gv, gu, gl, gf, gg, gb⟩ := id hG
  show wpAny _ _ (exec (Stmt.If _ _ _ _) (envOfC _ { kind := _, names := _, isGenerator := _, isCoroutine := _, more := _ } _ _ _)) _ _ _
  have N₀ : News h₀ L h ((I, io) :: (C.pen, LO [.ref C.c, .int spot t1, .int C.sm C.t2] np) :: (C.bd, o) :: (C.ll, LO ((List.range C.n).map fun j => .ref (V.l j)) e) :: (C.bk, ok) :: (C.fd, of) :: (C.md, om) :: (L + 1 + 1 + 1 + 1, C.o4) :: (L + 1 + 1 + 1, C.o3) :: (L + 1 + 1, C.o2) :: (L + 1, C.o1) :: TL) := N
  clear N
  walk_at "my steps"
  rename Fr _ _ _ _ => F₀
  rename News _ _ _ _ => Nz
  k_dflt (refine lawFlags_spec (Bs.at X T F₀) (by walk_at "my room") ?_)
  intro h₂ tk₂ D a k₂ fD hfl
  refine ex2k6 (Im.next (S := (I, io) :: C.led L V spot t1 np e o ok of om) hIm F₀ Nz (List.forall_mem_cons.mpr ⟨gI, Off.list off⟩) k₂) ?_
  intro G₁ TL₁ I₁ F₁ N₁ n₁ up₁ upz
  have hfl₁ := (hfl (bare h₀)).up (upz _ bare_sub)
  have hG₁ := hG.up up₁
  clear hIm F₀ Nz upz hfl up₁ f1 f2 f3 f4 f5 f6 f7 f8 f9 fa' gI gc gx gv gu gl gf gg gb hG off fD k₂
  have gI := (List.forall_mem_cons.mp n₁).1
  have off : Off G₁ (C.adr L) := Off.of (List.forall_mem_cons.mp n₁).2
  have f1 : G₁.get? C.pen = none := off _ (.head _)
  have f2 : G₁.get? C.bd = none := off _ (by k_mem)
  have f3 : G₁.get? C.ll = none := off _ (by k_mem)
  obtain ⟨gc, gx, gv, gu, gl, gf, gg, gb⟩ := id hG₁
  have N₂ : News h₀ L h₂ ((I, io) :: (C.pen, LO [.ref C.c, .int spot t1, .int C.sm C.t2] np) :: (C.bd, o) :: (C.ll, LO ((List.range C.n).map fun j => .ref (V.l j)) e) :: (C.bk, ok) :: (C.fd, of) :: (C.md, om) :: (L + 1 + 1 + 1 + 1, C.o4) :: (L + 1 + 1 + 1, C.o3) :: (L + 1 + 1, C.o2) :: (L + 1, C.o1) :: TL₁) := N₁
  clear N₁
  have f4 : ∀ q ∈ TL₁, q.1 ≠ I := I₁.all gI
  walk_at "my steps"
  rename Fr _ _ _ _ => Fa
  rename News _ _ _ _ => Na
  rename_i hP tkP r tr t1' np' q1 q2 kP eP
  clear kP eP
  have ej : ((j : Int) + 1 - 1).toNat = j := by omega
  k_dflt (refine setFlags_spec (Bs.up ⟨X, T⟩ I₁.sub) (I₁.stays Fa Na (by walk_at "my sub")) (by walk_at "my room") (by omega) gx (Na.get (by k_mem)) f2 hO.b (Na.get (by k_mem)) f3 a23.ne gl gf (flOf_is _) (hfl₁.2 _ (by omega)) n100 (by omega) (by omega) p0 (by omega) ?_ ?_)
  · intro _ h₃ tk₃ k₃
    have F₃ := Fr.keeps Fa k₃
    have N₃ := News.grown Na k₃
    clear Fa Na k₃
    walk_at "my steps"
    exact k _ _ _ _ F₃ N₃ (by k_all) ⟨V, G₁, TL₁, o, ok, of, om, np', e, spot + 1, t1', rfl, I₁, off, hG₁, hO, by omega, by omega, by omega, by omega⟩ rfl
  · intro _ h₃ tk₃ l' D' o' e' kp e1 hb' e2 hLn hFn
    rw [ej] at e2
    have Z := newsUpd2 Fa Na kp (by k_upd) (by k_upd) e1 e2 a23.ne
    refine and2 (Z) ?_
    intro Fb Nb
    have Na' : News h₀ L _ ([_, _, _, _, _, _, _, _, _, _, _] ++ TL₁) := Na
    have Nb' : News h₀ L h₃ ([_, _, _, _, _, _, _, _, _, _, _] ++ TL₁) := Nb
    have off₁ : Off G₁ (I :: C.adr L) := Off.of n₁
    refine ex2k5 (Im.after I₁ Fa Na' Fb Nb' rfl off₁) ?_
    intro G₂ TL₂ I₂ Nc off₂ up₂ gr₂
    have hG₂ := hG₁.up up₂
    have gI₂ : G₂.get? I = none := off₂ _ (.head _)
    have hLn' := hLn.up gr₂
    have hFn' := hFn.up gr₂
    simp only [List.cons_append, List.nil_append] at Nc
    clear Fa Na Na' Nb' Nb gr₂ kp e1 e2 off₁ hLn hFn
    walk_at "my steps"
    exact k _ _ _ _ Fb Nc (by k_all) ⟨{ V with top := V.top + 1, l := fun i => if i = j then l' else V.l i, tp := fun i => if i = j then D' else V.tp i, ms := fun i => if i = j then V.top + 1 else V.ms i, fl := fun i => if i = j then flOf r.toNat else V.fl i }, G₂, TL₂, o', ok, of, om, np', e', spot + 1, t1', rfl, I₂, fun a ha => off₂ a (.tail _ ha), ⟨hG₂.c, hG₂.x, hG₂.v, hG₂.u, fun i hi => by
      by_cases q : i = j
      · subst q; simpa using hLn'
      · simpa [q] using hG₂.l i hi, fun i hi => by
      by_cases q : i = j
      · subst q; simpa using ⟨hFn', flOf_is _⟩
      · simpa [q] using hG₂.f i hi, hG₂.g, hG₂.b⟩, ⟨hb', hO.k, hO.f, hO.m⟩, by omega, by omega, by show 0 ≤ V.top + 1; omega, by show V.top + 1 ≤ _; omega⟩ rfl
section PartLawF
local macro_rules | `(tactic| walk_at "call ref") => `(tactic| (k_here; (with_reducible show wpAny _ _ (call (Value.ref 109) _) _ _ _); k_dflt (refine note_specN (Bs.up ⟨by with_reducible assumption, by with_reducible assumption⟩ (Im.sub (by with_reducible assumption))) (by walk_at "my im") (by walk_at "my room") (by with_reducible assumption) (by walk_at "my letterG") (News.get (by with_reducible assumption) (by k_mem)) (by with_reducible assumption) (by with_reducible assumption) (News.get (by with_reducible assumption) (by k_mem)) (by with_reducible assumption) (by with_reducible assumption) (NeA.ne (by with_reducible assumption)) (by with_reducible assumption) (by with_reducible assumption) ?_); intro h' tk' of' om' t' k' e1' d1' e2' d2'; (refine and2 (newsUpd2 (by with_reducible assumption) (by with_reducible assumption) k' (by k_upd) (by k_upd) e1' e2' (NeA.ne (by with_reducible assumption))) ?_); intro F'' N''; (try k_sweep); (try dsimp only)))
theorem book_fin {w : World} {h₀ h G : Heap} {L Dt I : Addr} {m : Str → Option Value} {C : LC} {V : LV} {io o ok of om ok' of' om' : Obj} {np e b j : Nat} {spot : Int} {t1 tb ta : Tok} {TL : List (Addr × Obj)} (hIm : Im h₀ G TL) (off : Off G (C.adr L)) (gI : G.get? I = none) (hG : GF C V G) (hO : LO' w C V o ok of om)
    (s0 : 0 ≤ spot) (s1 : spot ≤ b) (p0 : 0 ≤ V.top) (p1 : V.top ≤ b) (hj : j < C.n) (F : Fr h₀ L h m) (N : News h₀ L h ((Dt, ({ cls := .type "tuple", data := .seq [Value.ref (V.tp j), .int (V.ms j) tb].toArray } : Obj)) :: ((I, io) :: C.led L V spot t1 np e o ok' of' om' ++ TL)))
    (nD : ∀ p ∈ (I, io) :: C.led L V spot t1 np e o ok' of' om' ++ TL, p.1 ≠ Dt) (ne : ∀ q ∈ C.led L V spot t1 np e o ok of om, q.1 ≠ I)
    (df : DictO w C.n (fun i => if i = j then .ref (V.tp j) else .ref (V.va i)) of') (dm : DictO w C.n (fun i => if i = j then .int (V.ms j) ta else .int (V.vm i) (V.vt i)) om') (dk : DictO w C.n (fun i => if i = j then .ref Dt else .ref (V.bt i)) ok') :
    ∃ nw', News h₀ L h ((I, io) :: nw') ∧ (∀ q ∈ nw', q.1 ≠ I) ∧ LS w h₀ L C b nw' := by
  refine ex2k6 (hIm.redo (X := [(Dt, ({ cls := .type "tuple", data := .seq [Value.ref (V.tp j), .int (V.ms j) tb].toArray } : Obj))]) (S := (I, io) :: C.led L V spot t1 np e o ok' of' om') F N (Off.of (List.forall_mem_cons.mpr ⟨gI, Off.list off⟩)) (fun p hp q hq => by
    rw [List.mem_singleton] at hq
    subst hq
    exact Ne.symm (nD p (List.mem_append_left _ hp)))) ?_
  intro G' TL' I' N' off' up' xs zz7
  clear zz7
  have hDt := xs _ (.head _)
  have hG' := hG.up up'
  have gI' : G'.get? I = none := off' _ (.head _)
  refine ⟨C.led L V spot t1 np e o ok' of' om' ++ TL', N', fun q hq => ?_, { V with va := fun i => if i = j then V.tp j else V.va i, vfl := fun i => if i = j then V.fl j else V.vfl i, vm := fun i => if i = j then V.ms j else V.vm i, vt := fun i => if i = j then ta else V.vt i, bt := fun i => if i = j then Dt else V.bt i }, G', TL', o, ok', of', om', np, e, spot, t1, rfl, I', fun a ha => off' a (.tail _ ha), ⟨hG'.c, hG'.x, hG'.v, hG'.u, hG'.l, hG'.f, fun i hi => ?_, fun i hi => ?_⟩, ⟨hO.b, ?_, ?_, ?_⟩, s0, s1, p0, p1⟩
  · rcases List.mem_append.mp hq with hq | hq
    · have : q.1 ∈ (C.led L V spot t1 np e o ok of om).map (·.1) := List.mem_map_of_mem (f := (·.1)) hq
      obtain ⟨q', hq', e'⟩ := List.mem_map.mp this
      rw [← e']; exact ne q' hq'
    · exact I'.all gI' q hq
  · by_cases q : i = j
    · subst q; simpa using hG'.f i hi
    · simpa [q] using hG'.g i hi
  · by_cases q : i = j
    · subst q; simp only [if_true]; exact ⟨tb, _, hDt⟩
    · simpa [q] using hG'.b i hi
  · exact dk.congr fun i _ => by (try dsimp only); split <;> rfl
  · exact df.congr fun i _ => by (try dsimp only); split <;> rfl
  · exact dm.congr fun i _ => by (try dsimp only); split <;> rfl
theorem way2 {w : World} {mg mb : Str → Option Value} {dep un : Nat} {fr : Option (List Env)} {gd : Option (List Code)} {h₀ h G : Heap} {gens : Array GenState} {drawn : Drawn} {os : OsState} {tk : Nat} {L fa : Addr} {cd : Value} {C : LC} {V : LV} {io o ok of om : Obj} {np e b j : Nat} {spot : Int} {t1 tu tw : Tok} {mm : Str → Option Value} {TL : List (Addr × Obj)} {I : Addr} {Q : Flow → Shared → Prop}
    (X : (heapK w.params).In h₀) (T : TopRead VG LG mg mb h₀) (hA : dep < 800) (hU : un < 100) (K : LK C L) (hIm : Im h₀ G TL) (off : Off G (C.adr L)) (hG : GF C V G) (hO : LO' w C V o ok of om) (s0 : 0 ≤ spot) (s1 : spot ≤ b) (p0 : 0 ≤ V.top) (p1 : V.top ≤ b) (hb : b ≤ 500) (hj : j < C.n)
    (F : Fr h₀ L h (fun y => if y = Str.ofString "letter" then some (.ref (V.l j)) else if y = Str.ofString "uid" then some (.int ((j : Int) + 1) tu) else if y = Str.ofString "way" then some (.int 2 tw) else if y = Str.ofString "pen" then some (.ref C.pen) else mm y))
    (N : News h₀ L h ((I, io) :: (C.led L V spot t1 np e o ok of om ++ TL))) (ne : ∀ q ∈ C.led L V spot t1 np e o ok of om ++ TL, q.1 ≠ I)
    (k : ∀ h' tk' m' nw', Fr h₀ L h' m' → News h₀ L h' ((I, io) :: nw') → (∀ q ∈ nw', q.1 ≠ I) → LS w h₀ L C (b + 1) nw' → m' (Str.ofString "pen") = some (.ref C.pen) → Q .next ⟨h', gens, drawn, tk', os⟩) :
    wpAny (model PG w) (AR dep fr gd un) (exec ifStmt (lawEnv L fa cd)) Q (fun _ _ => False) ⟨h, gens, drawn, tk, os⟩ := by
  obtain ⟨ap, d1, d2, d3, d4, lf, lm, lb, n1, n5, hi, hl⟩ := id K
  refine Apart.elim10 ap ?_
  intro a12 a13 a14 a15 a16 a17 a18 a19 a1a a23 a24 a25 a26 a27 a28 a29 a2a a34 a35 a36 a37 a38 a39 a3a a45 a46 a47 a48 a49 a4a a56 a57 a58 a59 a5a a67 a68 a69 a6a a78 a79 a7a a89 a8a a9a
  have nI := allNeA_of ne (C.led L V spot t1 np e o ok of om) (fun p hp => List.mem_append_left TL hp)
  refine AllNeA.elim10 nI ?_
  intro b1 b2 b3 b4 b5 b6 b7 b8 b9 ba
  have n100 : C.n ≤ 100 := Nat.le_trans n5 (by decide)
  have gI : G.get? I = none := hIm.off (m := fun _ => none) N (.head _) fun p hp => ne p (List.mem_append_right _ hp)
  have f1 : G.get? C.pen = none := off _ (.head _)
  have f2 : G.get? C.bd = none := off _ (by k_mem)
  have f3 : G.get? C.ll = none := off _ (by k_mem)
  have f4 : G.get? C.bk = none := off _ (by k_mem)
  have f5 : G.get? C.fd = none := off _ (by k_mem)
  have f6 : G.get? C.md = none := off _ (by k_mem)
  have f7 : G.get? (L + 1 + 1 + 1 + 1) = none := off _ (by k_mem)
  have f8 : G.get? (L + 1 + 1 + 1) = none := off _ (by k_mem)
  have f9 : G.get? (L + 1 + 1) = none := off _ (by k_mem)
  have fa' : G.get? (L + 1) = none := off _ (by k_mem)
  obtain ⟨gc, gx, gv, gu, gl, gf, gg, gb⟩ := id hG
  show wpAny _ _ (exec (Stmt.If _ _ _ _) (envOfC _ { kind := _, names := _, isGenerator := _, isCoroutine := _, more := _ } _ _ _)) _ _ _
  have N₀ : News h₀ L h ((I, io) :: (C.pen, LO [.ref C.c, .int spot t1, .int C.sm C.t2] np) :: (C.bd, o) :: (C.ll, LO ((List.range C.n).map fun j => .ref (V.l j)) e) :: (C.bk, ok) :: (C.fd, of) :: (C.md, om) :: (L + 1 + 1 + 1 + 1, C.o4) :: (L + 1 + 1 + 1, C.o3) :: (L + 1 + 1, C.o2) :: (L + 1, C.o1) :: TL) := N
  clear N
  have hdk := hO.k
  have hdf := hO.f
  have hdm := hO.m
  walk_at "my steps"
  rename Fr _ _ _ _ => Fz
  rename News _ _ _ _ => Nz
  rename_i h1 tk1 of' om' ta kk e1 dd e2 de tb Dt h2 lD h3 ok' dk'
  have ej : ((j : Int) + 1 - 1).toNat = j := by omega
  rw [ej] at dk'
  refine ex1k3 (book_fin (b := b + 1) hIm off gI hG hO s0 (by omega) p0 (by omega) hj Fz Nz (AllLt.ne lD) (fun q hq => ne q (List.mem_append_left _ hq)) dd de dk') ?_
  intro nw' N' ne' S'
  exact k _ _ _ _ Fz N' ne' S' rfl
end PartLawF
theorem way1 {w : World} {mg mb : Str → Option Value} {dep un : Nat} {fr : Option (List Env)} {gd : Option (List Code)} {h₀ h G : Heap} {gens : Array GenState} {drawn : Drawn} {os : OsState} {tk : Nat} {L fa : Addr} {cd : Value} {C : LC} {V : LV} {io o ok of om : Obj} {np e b j : Nat} {spot : Int} {t1 tu tw : Tok} {mm : Str → Option Value} {TL : List (Addr × Obj)} {I : Addr} {Q : Flow → Shared → Prop}
    (X : (heapK w.params).In h₀) (T : TopRead VG LG mg mb h₀) (hA : dep < 800) (hU : un < 100) (K : LK C L) (hIm : Im h₀ G TL) (off : Off G (C.adr L)) (hG : GF C V G) (hO : LO' w C V o ok of om) (s0 : 0 ≤ spot) (s1 : spot ≤ b) (p0 : 0 ≤ V.top) (p1 : V.top ≤ b) (hb : b ≤ 500) (hj : j < C.n)
    (F : Fr h₀ L h (fun y => if y = Str.ofString "letter" then some (.ref (V.l j)) else if y = Str.ofString "uid" then some (.int ((j : Int) + 1) tu) else if y = Str.ofString "way" then some (.int 1 tw) else if y = Str.ofString "pen" then some (.ref C.pen) else mm y))
    (N : News h₀ L h ((I, io) :: (C.led L V spot t1 np e o ok of om ++ TL))) (ne : ∀ q ∈ C.led L V spot t1 np e o ok of om ++ TL, q.1 ≠ I)
    (k : ∀ h' tk' m' nw', Fr h₀ L h' m' → News h₀ L h' ((I, io) :: nw') → (∀ q ∈ nw', q.1 ≠ I) → LS w h₀ L C (b + 1) nw' → m' (Str.ofString "pen") = some (.ref C.pen) → Q .next ⟨h', gens, drawn, tk', os⟩) :
    wpAny (model PG w) (AR dep fr gd un) (exec ifStmt (lawEnv L fa cd)) Q (fun _ _ => False) ⟨h, gens, drawn, tk, os⟩ := by
  obtain ⟨ap, d1, d2, d3, d4, lf, lm, lb, n1, n5, hi, hl⟩ := id K
  refine Apart.elim10 ap ?_
  intro a12 a13 a14 a15 a16 a17 a18 a19 a1a a23 a24 a25 a26 a27 a28 a29 a2a a34 a35 a36 a37 a38 a39 a3a a45 a46 a47 a48 a49 a4a a56 a57 a58 a59 a5a a67 a68 a69 a6a a78 a79 a7a a89 a8a a9a
  have nI := allNeA_of ne (C.led L V spot t1 np e o ok of om) (fun p hp => List.mem_append_left TL hp)
  refine AllNeA.elim10 nI ?_
  intro b1 b2 b3 b4 b5 b6 b7 b8 b9 ba
  have n100 : C.n ≤ 100 := Nat.le_trans n5 (by decide)
  have gI : G.get? I = none := hIm.off (m := fun _ => none) N (.head _) fun p hp => ne p (List.mem_append_right _ hp)
  have f1 : G.get? C.pen = none := off _ (.head _)
  have f2 : G.get? C.bd = none := off _ (by k_mem)
  have f3 : G.get? C.ll = none := off _ (by k_mem)
  have f4 : G.get? C.bk = none := off _ (by k_mem)
  have f5 : G.get? C.fd = none := off _ (by k_mem)
  have f6 : G.get? C.md = none := off _ (by k_mem)
  have f7 : G.get? (L + 1 + 1 + 1 + 1) = none := off _ (by k_mem)
  have f8 : G.get? (L + 1 + 1 + 1) = none := off _ (by k_mem)
  have f9 : G.get? (L + 1 + 1) = none := off _ (by k_mem)
  have fa' : G.get? (L + 1) = none := off _ (by k_mem)
  obtain ⟨gc, gx, gv, gu, gl, gf, gg, gb⟩ := id hG
  show wpAny _ _ (exec (Stmt.If _ _ _ _) (envOfC _ { kind := _, names := _, isGenerator := _, isCoroutine := _, more := _ } _ _ _)) _ _ _
  have N₀ : News h₀ L h ((I, io) :: (C.pen, LO [.ref C.c, .int spot t1, .int C.sm C.t2] np) :: (C.bd, o) :: (C.ll, LO ((List.range C.n).map fun j => .ref (V.l j)) e) :: (C.bk, ok) :: (C.fd, of) :: (C.md, om) :: (L + 1 + 1 + 1 + 1, C.o4) :: (L + 1 + 1 + 1, C.o3) :: (L + 1 + 1, C.o2) :: (L + 1, C.o1) :: TL) := N
  clear N
  have hdk := hO.k
  have hdf := hO.f
  have hdm := hO.m
  walk_at "my steps"
  rename Fr _ _ _ _ => Fa
  rename News _ _ _ _ => Na
  have Nk : News h₀ L h ([(C.bd, o), (C.ll, LO ((List.range C.n).map fun j => .ref (V.l j)) e)] ++ ([(C.fd, of), (C.md, om)] ++ TL)) := by
    dsimp only [List.cons_append, List.nil_append]
    walk_at "my each"
    all_goals first | exact Na _ (by k_mem) | exact fun p hp => Na p (by (repeat (first | with_reducible exact hp | with_reducible apply List.mem_cons_of_mem)))
  refine ex2k6 (hIm.redo (S := [(C.fd, of), (C.md, om)]) (X := [(C.bd, o), (C.ll, LO ((List.range C.n).map fun j => .ref (V.l j)) e)]) Fa Nk (by
      dsimp only [Off, List.map_cons, List.map_nil]
      walk_at "my each"
      all_goals assumption) (by
      walk_at "my each"
      all_goals first | exact NeA.ne (by with_reducible assumption) | exact NeA.en (by with_reducible assumption))) ?_
  intro Gk TLk Ik Nk' offk upk xk zz7
  clear zz7
  k_dflt (refine keepSilent_spec (Bs.up ⟨X, T⟩ Ik.sub) (Ik.stays Fa Nk' (fun _ hp => .tail _ (.tail _ hp))) (by walk_at "my room") (gv.up upk) ⟨upk _ _ gx, o, xk _ (.head _), hO.b⟩ ⟨⟨e, xk _ (.tail _ (.head _))⟩, gl.up upk⟩ (Na.get (by k_mem)) (offk _ (.head _)) hdf lf (Na.get (by k_mem)) (offk _ (.tail _ (.head _))) hdm a56.ne n100 (by omega) (by omega) ?_)
  intro h₂ tk₂ of₂ om₂ t₂ kp e1 dd₂ e2 de₂
  have ej₀ : ((j : Int) + 1 - 1).toNat = j := by omega
  rw [ej₀] at dd₂ de₂
  have Z := newsUpd2 Fa Na kp (by k_upd) (by k_upd) e1 e2 a56.ne
  refine and2 (Z) ?_
  intro Fb Nb
  clear Fa Na kp Nk' Nk offk xk upk Ik hdf hdm e1 e2
  walk_at "my steps"
  rename Fr _ _ _ _ => Fz
  rename News _ _ _ _ => Nz
  rename_i tb Dt h3 lD h4 ok' dk'
  rw [ej₀] at dk'
  refine ex1k3 (book_fin (b := b + 1) hIm off gI hG hO s0 (by omega) p0 (by omega) hj Fz Nz (AllLt.ne lD) (fun q hq => ne q (List.mem_append_left _ hq)) dd₂ de₂ dk') ?_
  intro nw' N' ne' S'
  exact k _ _ _ _ Fz N' ne' S' rfl
/-! comprehensions over a list of pairs, with two names -/
section
variable {prog : Program} {w : World} {A : Around} {R : Result → Shared → Prop} {s : Shared}
theorem comp_turns2 {elt iter : Expr} {x x₂ : Str} {px px₂ tp : Pos} {x1} {scope : Scope} {pos : Pos} {cenv : Env} {I D : Addr} {fp : List Addr} {n : Nat} {P : Nat → Value → Prop} {St : Nat → Heap → Prop}
    {H : Heap} {m₀ : Str → Option Value} {ta : Nat → Addr} {v1 v2 : Nat → Value} (Ψ : Nat → Value → Heap → Prop) (W : Walks prog w A I fp [I] n P St) (hsz : n ≤ 1000) (hh : A.handled = none)
    (mono : ∀ i y h h', h.StaysIn h' → Ψ i y h → Ψ i y h')
    (hx : cenv.kindOf x = some .local) (hx₂ : cenv.kindOf x₂ = some .local) (hxx : x₂ ≠ x) (hk : (cenv.scope.kind == .class || (cenv.scope.kind == .module && cenv.locals != cenv.globals)) = false)
    (hDC : D ≠ cenv.locals) (hDf : D ∉ fp) (hCf : cenv.locals ∉ fp) (hIH : H.get? I = none) (hDH : H.get? D = none) (hCH : H.get? cenv.locals = none) (live : ∀ i h, St i h → ∃ l j, h.IsListIter I l j)
    (hP : ∀ i v, P i v → v = .ref (ta i) ∧ TupAt H (ta i) [v1 i, v2 i])
    (hst : St 0 s.heap) (hacc : s.heap.PlainList D #[]) (hn : s.heap.Ns cenv.locals m₀) (hH : H.StaysIn s.heap)
    (helt : ∀ i h tk m, i < n → H.StaysIn h → h.Ns cenv.locals m → m x = some (v1 i) → m x₂ = some (v2 i) →
      wpAny (model prog w) A (eval elt cenv) (fun y s₃ => ∃ h' tk', s₃ = { s with heap := h', toks := tk' } ∧ h.StaysIn h' ∧ Ψ i y (grow H h h')) (fun _ _ => False) { s with heap := h, toks := tk })
    (hR : ∀ h' tk m' ys (Y : Nat → Value), h'.Ns cenv.locals m' → h'.PlainList D ys → ys.toList = (List.range n).map Y → H.StaysIn h' → (∃ g, H.StaysIn g ∧ g.StaysIn h' ∧ g.get? D = none ∧ g.get? cenv.locals = none ∧ ∀ i, i < n → Ψ i (Y i) g) →
      R (.ok .next) { s with heap := h', toks := tk }) :
    codeAny (model prog w) A (.compLoop (.ListComp elt [⟨.Tuple [.Name x px, .Name x₂ px₂] x1 tp, iter, [], 0⟩] scope pos) 0 (.ref I) (.ref D) cenv) R s := by
  refine LCp.codeAny_compLoop_pair
    (fun k s' => ∃ h tk m j ys, ∃ (Y : Nat → Value) (g : Heap), s' = { s with heap := h, toks := tk } ∧ k = n + 1 - j ∧ j ≤ n ∧ St j h ∧ h.PlainList D ys ∧ h.Ns cenv.locals m ∧
      ys.toList = (List.range j).map Y ∧ H.StaysIn g ∧ g.StaysIn h ∧ g.get? D = none ∧ g.get? cenv.locals = none ∧ g.get? I = none ∧ ∀ i, i < j → Ψ i (Y i) g) ?_ (n + 1)
    ⟨s.heap, s.toks, m₀, 0, #[], fun _ => .none, H, rfl, rfl, Nat.zero_le _, hst, hacc, hn, rfl, fun _ _ e => e, hH, hDH, hCH, hIH, fun i hi => absurd hi (Nat.not_lt_zero _)⟩
  rintro k s' ⟨h, tk, m, j, ys, Y, g, rfl, rfl, hj, hst', hacc', hn', hys, hHg, hgh, gD, gC, gI, hΨ⟩
  have hys_sz : ys.size ≤ sizeLine := by
    have e1 : ys.toList.length = ys.size := by simp
    rw [hys, List.length_map, List.length_range] at e1
    rw [sizeLine_eq]; omega
  by_cases hlt : j < n
  · refine W.item j _ _ _ hlt hst' fun v h₁ tk₁ hPv hst₁ hk₁ => ?_
    have hCI : cenv.locals ∉ [I] := fun q => hCf (W.sub _ q)
    have hDI : D ∉ [I] := fun q => hDf (W.sub _ q)
    obtain ⟨rfl, nt, ht⟩ := hP j v hPv
    obtain ⟨l', j', hit⟩ := live _ _ hst₁
    have hHI : ∀ b o, H.get? b = some o → b ∉ [I] := fun b o e q => by rw [List.mem_singleton.mp q, hIH] at e; cases e
    have ht₁ := hk₁ _ _ (hHI _ _ ht) (hgh _ _ (hHg _ _ ht))
    refine wpAny_letOwnedTupleGo_listiter (s := { s with heap := h₁, toks := tk₁ }) hit ?_
    refine wpAny_assign_Tuple (s := { s with heap := h₁, toks := tk₁ }) (items := #[v1 j, v2 j]) hh ⟨_, ht₁, rfl, nt, rfl⟩ rfl rfl fun h₂ hx₁₂ => ?_
    have k12 : h₁.StaysIn h₂ := fun b o e => hx₁₂ b o (Nat.ne_of_lt (Heap.lt_size e)) e
    have hn₂ := (hn'.at' fun o e => hk₁ _ o hCI e).keeps k12
    show wpAny _ A (assignInOrder [assign (.Name x px) cenv, assign (.Name x₂ px₂) cenv] [v1 j, v2 j]) _ _ _
    refine wpAny_assignInOrder_more (wpAny_assign_Name (wpAny_storeName_local (s := { s with heap := h₂, toks := tk₁ }) hx hn₂ (fun h₃ hn₃ hs₃ => ?_) hk))
    refine wpAny_assignInOrder_more (wpAny_assign_Name (wpAny_storeName_local hx₂ hn₃ (fun h₄ hn₄ hs₄ => ?_) hk))
    refine wpAny_assignInOrder_none ?_
    have gne : ∀ b o, g.get? b = some o → b ≠ I ∧ b ≠ cenv.locals ∧ b ≠ D := fun b o e => ⟨fun q => (by rw [q, gI] at e; cases e), fun q => (by rw [q, gC] at e; cases e), fun q => (by rw [q, gD] at e; cases e)⟩
    have s24 : ∀ b o, b ≠ cenv.locals → h₂.get? b = some o → h₄.get? b = some o := fun b o nb e => hs₄.extBut b o nb (hs₃.extBut b o nb e)
    have g₄ : g.StaysIn h₄ := fun b o e => by
      obtain ⟨n1, n2, n3⟩ := gne b o e
      exact s24 b o n2 (k12 _ _ (hk₁ b o (by simpa using n1) (hgh b o e)))
    have up₄ : ∀ b o, b ≠ cenv.locals → b ≠ I → h.get? b = some o → h₄.get? b = some o := fun b o n1 n2 e => s24 b o n1 (k12 _ _ (hk₁ b o (by simpa using n2) e))
    have hst₄ : St (j + 1) h₄ := W.frame _ _ _ hst₁ fun b hb o e => s24 b o (fun q => hCf (q ▸ hb)) (k12 _ _ e)
    have hacc₄ : h₄.PlainList D ys := hacc'.at fun o e => up₄ D o hDC (by simpa using hDI) e
    refine wpAny_mono (helt j h₄ _ _ hlt (fun b o e => g₄ b o (hHg b o e)) hn₄ (by simp [Ne.symm hxx]) (by simp)) (fun y s₅ h₅' => ?_) fun _ _ q => q.elim
    obtain ⟨h₅, tk₅, rfl, hk₅, hy⟩ := h₅'
    refine wpAny_list_append_plain (hsz := hys_sz) (hacc₄.at fun o e => hk₅ _ o e) fun h₆ hl₆ hs₆ => ?_
    have g₆ : ∀ b o, b ≠ D → h₅.get? b = some o → h₆.get? b = some o := fun b o nb e => hs₆.extBut b o nb e
    let q : Addr → Bool := fun a => (g.get? a).isSome || (H.get? a).isSome || (h₄.get? a).isNone
    obtain ⟨eD, hD₄⟩ := id hacc₄
    obtain ⟨oC, _, _, hC₄, _⟩ := id hn₄
    obtain ⟨_, _, oI₄, hoI₄, _⟩ := live _ _ hst₄
    have offq : ∀ b o, g.get? b = none → H.get? b = none → h₄.get? b = some o → (only h₆ q).get? b = none := fun b o e1 e2 e3 => by
      rw [only_get, if_neg]
      simp [q, e1, e2, e3]
    refine ⟨n + 1 - (j + 1), by omega, h₆, tk₅, _, j + 1, ys.push y, (fun i => if i = j then y else Y i), only h₆ q, rfl, rfl, hlt, ?_, hl₆, (hn₄.keeps hk₅).sameBut hs₆ (Ne.symm hDC), ?_, ?_, only_sub,
      offq _ _ gD hDH hD₄, offq _ _ gC hCH hC₄, offq _ _ gI hIH hoI₄, fun i hi => ?_⟩
    · exact W.frame _ _ _ hst₄ fun b hb o e => g₆ b o (fun z => hDf (z ▸ hb)) (hk₅ b o e)
    · rw [List.range_succ, Array.toList_push, hys]
      simp only [if_true, List.map_append, List.map_cons, List.map_nil]
      refine congrArg (· ++ [y]) (List.map_congr_left fun i hi => ?_)
      have : i < j := List.mem_range.mp hi
      rw [if_neg (by omega)]
    · exact fun b o e => only_of (g₆ b o (gne b o (hHg b o e)).2.2 (hk₅ _ _ (g₄ b o (hHg b o e)))) (by simp [q, e])
    · rcases Nat.lt_succ_iff_lt_or_eq.mp hi with z | z
      · dsimp only
        rw [if_neg (by omega)]
        refine mono _ _ _ _ (fun b o e => ?_) (hΨ i z)
        exact only_of (g₆ b o (gne b o e).2.2 (hk₅ _ _ (g₄ b o e))) (by simp [q, e])
      · dsimp only
        rw [if_pos z, z]
        refine mono _ _ _ _ (fun b o e => ?_) hy
        have hHh : H.StaysIn h₅ := fun b o e => hk₅ _ _ (g₄ b o (hHg b o e))
        have e4 := grow_sub b o e
        rcases grow_is hHh e with e' | e'
        · exact only_of (g₆ b o (gne b o (hHg b o e')).2.2 e4) (by simp [q, e'])
        · exact only_of (g₆ b o (fun z => by rw [z, hD₄] at e'; cases e') e4) (by simp [q, e'])
  · have hin : j = n := by omega
    subst hin
    refine W.done _ _ _ hst' fun h₁ tk₁ hk₁ => ?_
    have hCI : cenv.locals ∉ [I] := fun q => hCf (W.sub _ q)
    have hDI : D ∉ [I] := fun q => hDf (W.sub _ q)
    have g₁ : g.StaysIn h₁ := fun b o e => hk₁ b o (by intro z; rw [List.mem_singleton] at z; rw [z, gI] at e; cases e) (hgh b o e)
    exact hR h₁ tk₁ m ys Y (hn'.at' fun o e => hk₁ _ o hCI e) (hacc'.at fun o e => hk₁ _ o hDI e) hys (fun b o e => g₁ b o (hHg b o e)) ⟨g, hHg, g₁, gD, gC, hΨ⟩
end
section
variable {prog : Program} {w : World} {A : Around} {E : Value → Shared → Prop} {s : Shared} {env : Env} {Q : Value → Shared → Prop}
  {elt iter : Expr} {x x₂ : Str} {px px₂ tp : Pos} {x1 : Nat} {scope : Scope} {pos : Pos} {cl : List (Str × Addr)}
def CpAt2 (prog : Program) (w : World) (A : Around) (env : Env) (elt iter tgt : Expr) (scope : Scope) (pos : Pos) (cl : List (Str × Addr)) (Q : Value → Shared → Prop) (E : Value → Shared → Prop) (xv : Value) (s : Shared) : Prop :=
  wpAny (model prog w) A (pyIter xv) (fun it s₂ => wpAny (model prog w) A (newList []) (fun acc s₃ =>
      wpAny (model prog w) A (newFunctionEnv scope env.globals cl [] env.qual none .none (some env)) (fun cenv s₄ =>
        codeAny (model prog w) A (.compStart (.ListComp elt [⟨tgt, iter, [], 0⟩] scope pos) 0 it acc { cenv with scope := relabel scope env }) (compPost (model prog w) A E none Q acc cenv.locals) s₄) E s₃) E s₂) E s
theorem cp_eval2 {tgt : Expr} (hclos : closureFor scope env = pure cl) (hkind : scope.kind = .function)
    (hnames : ∀ y ∈ scope.names, y.2 = .local → scope.names.lookup y.1 = some .local)
    (h : wpAny (model prog w) A (eval iter env) (fun xv s₁ => CpAt2 prog w A env elt iter tgt scope pos cl Q E xv s₁) E s)
    (hs : ∀ x, foldedSetIterable iter env x = pure x) :
    wpAny (model prog w) A (eval (.ListComp elt [⟨tgt, iter, [], 0⟩] scope pos) env) Q E s := by
  rw [eval_ListComp]
  exact wpAny_comprehension_free (use := none) rfl hs hclos hkind hnames h
end
section
variable {prog : Program} {w : World} {A : Around} {E : Value → Shared → Prop} {s : Shared} {env : Env} {Q : Value → Shared → Prop}
  {elt iter : Expr} {x x₂ : Str} {px px₂ tp : Pos} {x1 : Nat} {scope : Scope} {pos : Pos} {cl : List (Str × Addr)}
theorem cp_pair {l : Addr} {items : Array Value} {ta : Nat → Addr} {v1 v2 : Nat → Value} (hl : s.heap.IsList l items) (hh : A.handled = none) (hsz : items.size ≤ 1000)
    (hcell : ∀ y ∈ scope.names, y.2 ≠ .cell) (hkind : scope.kind = .function) (hx : scope.names.lookup x = some .local) (hx₂ : scope.names.lookup x₂ = some .local) (hxx : x₂ ≠ x)
    (hP : ∀ i v, items[i]? = some v → v = .ref (ta i) ∧ TupAt s.heap (ta i) [v1 i, v2 i])
    (Ψ : Nat → Value → Heap → Prop) (mono : ∀ i y h h', h.StaysIn h' → Ψ i y h → Ψ i y h')
    (helt : ∀ C i h tk m, i < items.size → Fr s.heap C h m → m x = some (v1 i) → m x₂ = some (v2 i) →
      wpAny (model prog w) A (eval elt (compEnvC scope cl C env)) (fun y s₃ => EltEnd s h (Ψ i y) s₃) (fun _ _ => False) { s with heap := h, toks := tk })
    (done : ∀ D h' tk n' (Y : Nat → Value), s.heap.StaysIn h' → s.heap.get? D = none → h'.get? D = some (LO ((List.range items.size).map Y) n') → (∀ i, i < items.size → Ψ i (Y i) h') → Q (.ref D) { s with heap := h', toks := tk }) :
    CpAt2 prog w A env elt iter (.Tuple [.Name x px, .Name x₂ px₂] x1 tp) scope pos cl Q E (.ref l) s := by
  have none_of : ∀ a, s.heap.objs.size ≤ a → s.heap.get? a = none := fun a ha => by
    cases e : s.heap.get? a with
    | none => rfl
    | some o' => exact absurd (Heap.lt_size e) (Nat.not_lt.mpr ha)
  have hlt : l < s.heap.objs.size := by obtain ⟨o, ho, _⟩ := hl; exact Heap.lt_size ho
  refine wpAny_pyIter_list hl ?_
  have W := Walks.list (prog := prog) (w := w) hh s.heap.objs.size l (Nat.ne_of_lt hlt) items
  refine wpAny_newObj_type (wpAny_newFunctionEnv hcell (by intro y hy; simp at hy) (fun h₁ hns₁ hsb₁ => ?_) hkind)
  dsimp only at hns₁ hsb₁ ⊢
  generalize hio : ({ cls := .type "list_iterator", data := .fields #[.ref l, .int 0 0] } : Obj) = io at hns₁ hsb₁ ⊢
  have hiof : io.isFreed = false := by rw [← hio]; rfl
  generalize hH2 : (s.heap.push io).push { cls := .type "list", dict := none, data := .seq ([] : List Value).toArray } = H2 at hns₁ hsb₁ ⊢
  have hI : (s.heap.push io).objs.size = s.heap.objs.size + 1 := Heap.size_push ..
  rw [hI]
  have hC : H2.objs.size = s.heap.objs.size + 2 := by rw [← hH2, Heap.size_push, hI]
  have old : ∀ (b : Nat) o, b < s.heap.objs.size + 2 → H2.get? b = some o → h₁.get? b = some o := fun b o hb e => hsb₁.extBut b o (neN (by rw [hC]; omega)) (Heap.get?_push_of_some _ e)
  have n1 : s.heap.objs.size ≤ s.heap.objs.size + 1 := by omega
  have n2 : s.heap.objs.size ≤ H2.objs.size := by omega
  have n3 : s.heap.objs.size + 1 ≠ H2.objs.size := by omega
  have n4 : s.heap.objs.size < s.heap.objs.size + 2 := by omega
  have n5 : s.heap.objs.size + 1 < s.heap.objs.size + 2 := by omega
  have base : ∀ b o, s.heap.get? b = some o → h₁.get? b = some o := fun b o e => old b o (Nat.lt_trans (Heap.lt_size e) n4) (hH2 ▸ Heap.get?_push_of_some _ (Heap.get?_push_of_some _ e))
  have hacc : h₁.PlainList (s.heap.objs.size + 1) #[] := ⟨0, old _ _ n5 (by rw [← hH2, ← hI]; exact Heap.get?_push_size _ rfl)⟩
  have hit : h₁.IsListIter s.heap.objs.size l 0 := ⟨io, old _ _ n4 (hH2 ▸ Heap.get?_push_of_some _ (Heap.get?_push_size _ hiof)), by rw [← hio], by rw [← hio]; rfl⟩
  have hst₁ : h₁.IsListIter s.heap.objs.size l 0 ∧ h₁.IsList l items := ⟨hit, hl.at fun o e => base _ _ e⟩
  have loop : codeAny (model prog w) A (.compLoop (.ListComp elt [⟨.Tuple [.Name x px, .Name x₂ px₂] x1 tp, iter, [], 0⟩] scope pos) 0 (.ref s.heap.objs.size) (.ref (s.heap.objs.size + 1)) (compEnvC scope cl H2.objs.size env))
      (compPost (model prog w) A E none Q (.ref (s.heap.objs.size + 1)) H2.objs.size) { s with heap := h₁, toks := s.toks + ([] : List (Str × Value)).length } := by
    refine comp_turns2 (cenv := compEnvC scope cl H2.objs.size env) (H := s.heap) (ta := ta) (v1 := v1) (v2 := v2) Ψ W hsz hh mono (lookup_relabel_local hx) (lookup_relabel_local hx₂) hxx (by simp [compEnvC, relabel, hkind]) n3 (fun q => by rcases List.mem_cons.mp q with q | q; exact absurd q (Nat.ne_of_gt (Nat.lt_succ_self _)); exact absurd (List.mem_singleton.mp q) (Nat.ne_of_gt (Nat.lt_succ_of_lt hlt))) (fun q => by rcases List.mem_cons.mp q with q | q; exact absurd (q : H2.objs.size = s.heap.objs.size) (Nat.ne_of_gt (by rw [hC]; exact n4)); exact absurd (List.mem_singleton.mp q : H2.objs.size = l) (Nat.ne_of_gt (Nat.lt_of_lt_of_le hlt n2)))
      (none_of _ (Nat.le_refl _)) (none_of _ n1) (none_of _ n2) (fun i h st => ⟨_, _, st.1⟩) hP hst₁ hacc hns₁ base
      (fun i h tk m hi hH hn hm1 hm2 => helt _ i h tk m hi ⟨hn, hH, n2⟩ hm1 hm2) ?_
    intro h' tk m' ys Y hn ⟨n', hD⟩ hys hH ⟨g, hg1, hg2, hg3, hg4, hg5⟩
    have hg4' : g.get? H2.objs.size = none := hg4
    refine ⟨m', hn, fun h'' hs'' => done (s.heap.objs.size + 1) h'' tk n' Y (fun b o e => hs''.extBut b o (fun q => by rw [q, none_of _ n2] at e; cases e) (hH b o e)) (none_of _ n1) ?_ fun i hi => mono _ _ _ _ (fun b o e => hs''.extBut b o (fun q => by rw [q, hg4'] at e; cases e) (hg2 b o e)) (hg5 i hi)⟩
    have := hs''.extBut _ _ n3 hD
    rw [this]
    obtain ⟨yl⟩ := ys
    simp only at hys
    subst hys
    rfl
  exact codeAny_compStart_list loop (W.self 0 _ _ _ hst₁ loop)
end
section
variable {prog : Program} {w : World} {A : Around} {E : Value → Shared → Prop} {s : Shared} {env : Env} {h₀ : Heap} {body : List Stmt} {Q : Flow → Shared → Prop}
theorem iter_trip {l : Addr} {items : Array Value} {m₀ : Str → Option Value} {news : List (Addr × Obj)} {x y z : Str} {px py pz tp : Pos} {x1 : Nat} {ta : Nat → Addr} {v1 v2 v3 : Nat → Value} (J : Nat → (Str → Option Value) → List (Addr × Obj) → Prop)
    (hh : A.handled = none) (hl : s.heap.IsList l items) (hlL : l ≠ env.locals) (hsrc : (∃ o, h₀.get? l = some o) ∨ ∃ o, ∀ i m nw, J i m nw → (l, o) ∈ nw)
    (hx : env.kindOf x = some .local) (hy : env.kindOf y = some .local) (hz : env.kindOf z = some .local) (hp : (env.scope.kind == .class || (env.scope.kind == .module && env.locals != env.globals)) = false)
    (hP : ∀ (i : Nat) (v : Value), items[i]? = some v → v = .ref (ta i)) (hT : ∀ i m nw h, i < items.size → J i m nw → Fr h₀ env.locals h m → News h₀ env.locals h nw → TupAt h (ta i) [v1 i, v2 i, v3 i])
    (F : Fr h₀ env.locals s.heap m₀) (N : News h₀ env.locals s.heap news) (hj : J 0 m₀ news)
    (turn : ∀ i m₁ news₁ h I io (s₁ : Shared), i < items.size → J i m₁ news₁ → (∀ p ∈ news₁, p.1 ≠ I) → Fr h₀ env.locals h (fun q => if q = z then some (v3 i) else if q = y then some (v2 i) else if q = x then some (v1 i) else m₁ q) → News h₀ env.locals h ((I, io) :: news₁) → s₁.heap = h →
      wpAny (model prog w) A (execs body env) (fun f s₂ => f = .next ∧ ItEnd h₀ env.locals (J (i + 1)) I io s₁ s₂) E s₁)
    (done : ∀ m₁ news₁ h tk, J items.size m₁ news₁ → Fr h₀ env.locals h m₁ → News h₀ env.locals h news₁ → Q .next { s with heap := h, toks := tk }) :
    wpAny (model prog w) A (pyIter (.ref l)) (fun it s₂ => LoopAtT prog w A h₀ env (.Tuple [.Name x px, .Name y py, .Name z pz] x1 tp) body Q E it s₂) E s := by
  have hlt : l < s.heap.objs.size := by obtain ⟨o, ho, _⟩ := hl; exact Heap.lt_size ho
  have hne : l ≠ s.heap.objs.size := Nat.ne_of_lt hlt
  have hI0 : h₀.get? s.heap.objs.size = none := next_is_new F
  refine wpAny_pyIter_list hl ?_
  have W := Walks.list (prog := prog) (w := w) hh s.heap.objs.size l hne items
  refine ⟨s.heap.objs.size, _, _, items.size, _, _, m₀, news, J, rfl, W, ?_, ?_, ?_, ⟨⟨_, Heap.get?_push_size _ rfl, rfl, rfl⟩, hl.at fun o e => Heap.get?_push_of_some _ e⟩, F.push _, (fun p hp => ⟨Heap.get?_push_of_some _ (N p hp).1, (N p hp).2⟩), ?_, hj, ?_, ?_⟩
  · intro q
    rcases List.mem_cons.mp q with q | q
    · exact absurd F.ns.lt (q ▸ Nat.lt_irrefl _)
    · exact hlL (List.mem_singleton.mp q).symm
  · intro b hb; rw [List.mem_singleton.mp hb]; exact hI0
  · intro p hp q
    have := Heap.lt_size (N p hp).1
    rw [List.mem_singleton.mp q] at this
    exact Nat.lt_irrefl _ this
  · intro i s' v Q' st q
    cases v with
    | ref T => exact wpAny_letOwnedTupleGo_listiter st.1 q
    | _ => exact wpAny_pure q
  · intro i v m₁ news₁ s₁ own hi hPv hJ hoff hown hval hall hst' F₁ N₁
    obtain rfl := hP i v hPv
    obtain ⟨io, hio, _⟩ := hst'.1
    have hIown : (s.heap.objs.size, io) ∈ own := hall _ (.head _) hI0 io hio
    have N₂ : News h₀ env.locals s₁.heap ((s.heap.objs.size, io) :: news₁) := fun p hp => by
      rcases List.mem_cons.mp hp with rfl | hp
      · exact N₁ _ (List.mem_append.mpr (.inl hIown))
      · exact N₁ _ (List.mem_append.mpr (.inr hp))
    obtain ⟨nt, ht⟩ := hT i m₁ news₁ s₁.heap hi hJ F₁ (fun p hp => N₁ _ (List.mem_append.mpr (.inr hp)))
    refine wpAny_assign_Tuple (items := #[v1 i, v2 i, v3 i]) hh ⟨_, ht, rfl, nt, rfl⟩ rfl rfl fun h₂ hx₁₂ => ?_
    have k12 : s₁.heap.StaysIn h₂ := fun b o e => hx₁₂ b o (Nat.ne_of_lt (Heap.lt_size e)) e
    have F₂ := Fr.keeps F₁ k12
    have N₃ := News.grown N₂ k12
    show wpAny _ A (assignInOrder [assign (.Name x px) env, assign (.Name y py) env, assign (.Name z pz) env] [v1 i, v2 i, v3 i]) _ _ _
    refine wpAny_assignInOrder_more (wpAny_assign_Name (wpAny_storeName_local (s := { s₁ with heap := h₂ }) hx F₂.ns (fun h₃ hn₃ hs₃ => ?_) hp))
    have F₃ := F₂.set hn₃ hs₃
    refine wpAny_assignInOrder_more (wpAny_assign_Name (wpAny_storeName_local hy F₃.ns (fun h₄ hn₄ hs₄ => ?_) hp))
    have F₄ := F₃.set hn₄ hs₄
    refine wpAny_assignInOrder_more (wpAny_assign_Name (wpAny_storeName_local hz F₄.ns (fun h₅ hn₅ hs₅ => ?_) hp))
    have F₅ := F₄.set hn₅ hs₅
    have N₅ := ((N₃.set hs₃).set hs₄).set hs₅
    refine wpAny_assignInOrder_none ?_
    refine wpAny_mono (turn i m₁ news₁ h₅ s.heap.objs.size io _ hi hJ (fun p hp q => hoff p hp (by rw [q]; exact .head _)) F₅ N₅ rfl) (fun f s₂ q => ?_) fun _ _ e => e
    obtain ⟨rfl, h', tk', m', nw, e, F', N', ne, hm⟩ := q
    refine ⟨rfl, h', tk', m', nw, e, F', fun p hp => ?_, fun p hp z => ne p hp (List.mem_singleton.mp z), hm⟩
    rcases List.mem_append.mp hp with hp | hp
    · rcases List.mem_cons.mp (hown p hp) with z | z
      · have e1 := hval p hp
        rw [z] at e1
        have : p = (s.heap.objs.size, io) := Prod.ext z (Option.some.inj (e1.symm.trans hio))
        rw [this]; exact N' _ (.head _)
      · have z' := List.mem_singleton.mp z
        rcases hsrc with ⟨o, q⟩ | ⟨o, q⟩
        · have := (N₁ p (List.mem_append.mpr (.inl hp))).2.2
          rw [z', q] at this; cases this
        · have e1 := hval p hp
          have e2 := (N₁ _ (List.mem_append.mpr (.inr (q i m₁ news₁ hJ)))).1
          rw [z'] at e1
          have : p = (l, o) := Prod.ext z' (Option.some.inj (e1.symm.trans e2))
          rw [this]; exact N' _ (.tail _ (q _ _ _ hm))
    · exact N' _ (.tail _ hp)
  · intro h' tk m' news' F' N' _ hJ
    exact done m' news' h' tk hJ F' N'
end
def elseOf : Option Stmt → List Stmt | some (.If _ _ e _) => e | _ => []
noncomputable def way3Body : List Stmt := elseOf (elseOf (elseOf (some ifStmt))[0]?)[0]?
noncomputable def dueBody : List Stmt := forBody way3Body[1]?
noncomputable def heardBody : List Stmt := forBody way3Body[3]?
/-- the data of a letter's news -/
def pairsD (uses : Bool) (f : List Str) (u ms : Int) : PyData :=
  if uses = true then .list [.tuple [.str (Str.ofString "UID"), .int u], .tuple [.str (Str.ofString "FLAGS"), .list (f.map PyData.str)], .tuple [.str (Str.ofString "MODSEQ"), .list [.int ms]]]
  else .list [.tuple [.str (Str.ofString "FLAGS"), .list (f.map PyData.str)]]
def rowD (uses : Bool) (f : List Str) (j : Nat) (ms : Int) : PyData := .tuple [.int ((j : Int) + 1), pairsD uses f ((j : Int) + 1) ms]
def Rd (h : Heap) (v : Value) (d : PyData) : Prop := ∃ as, Reads h v d as
theorem Rd.up {h h' : Heap} (k : h.StaysIn h') {v : Value} {d : PyData} : Rd h v d → Rd h' v d := fun ⟨as, r⟩ => ⟨as, PyProof.Rows.Reads.keeps k r⟩
theorem rd_row {h : Heap} {uses : Bool} {f : List Str} {j : Nat} {ms : Int} {a p : Addr} {t : Tok} {n : Nat} (hp : Rd h (.ref p) (pairsD uses f ((j : Int) + 1) ms)) (ha : h.get? a = some ({ cls := .type "tuple", data := .seq [Value.int ((j : Int) + 1) t, .ref p].toArray n } : Obj)) : Rd h (.ref a) (rowD uses f j ms) := by
  obtain ⟨as, r⟩ := hp
  exact ⟨_, .tuple ha rfl rfl (ReadsAll.cons (.int _ _) (ReadsAll.cons r .nil))⟩
theorem rd_no {h : Heap} {uses : Bool} {f : List Str} {u ms : Int} {p q l : Addr} {t : Tok} {n n' c k : Nat} {T : Nat → Tok} (hu : uses = false) (hp : h.get? p = some (LO [.ref q] n)) (hq : h.get? q = some ({ cls := .type "tuple", data := .seq [Value.str (Str.ofString "FLAGS") t, .ref l].toArray n' } : Obj)) (hl : h.get? l = some (LO ((f.zipIdx k).map fun p => Value.str p.1 (T p.2)) c)) : Rd h (.ref p) (pairsD uses f u ms) := by
  unfold pairsD
  rw [hu, if_neg (by decide)]
  exact ⟨_, .list hp rfl rfl (ReadsAll.cons (.tuple hq rfl rfl (ReadsAll.cons (.str _ _) (ReadsAll.cons (.list hl rfl rfl (fl_all f k)) .nil))) .nil)⟩
theorem rd_yes {h : Heap} {uses : Bool} {f : List Str} {u ms : Int} {p q1 q2 q3 l ml : Addr} {t1 t2 t3 tu tm : Tok} {n n1 n2 n3 n4 c k : Nat} {T : Nat → Tok} (hu : uses = true) (hp : h.get? p = some (LO [.ref q1, .ref q2, .ref q3] n)) (h1 : h.get? q1 = some ({ cls := .type "tuple", data := .seq [Value.str (Str.ofString "UID") t1, .int u tu].toArray n1 } : Obj))
    (h2 : h.get? q2 = some ({ cls := .type "tuple", data := .seq [Value.str (Str.ofString "FLAGS") t2, .ref l].toArray n2 } : Obj)) (hl : h.get? l = some (LO ((f.zipIdx k).map fun p => Value.str p.1 (T p.2)) c)) (h3 : h.get? q3 = some ({ cls := .type "tuple", data := .seq [Value.str (Str.ofString "MODSEQ") t3, .ref ml].toArray n3 } : Obj)) (hm : h.get? ml = some (LO [.int ms tm] n4)) : Rd h (.ref p) (pairsD uses f u ms) := by
  unfold pairsD
  rw [hu, if_pos rfl]
  exact ⟨_, .list hp rfl rfl (ReadsAll.cons (.tuple h1 rfl rfl (ReadsAll.cons (.str _ _) (ReadsAll.cons (.int _ _) .nil))) (ReadsAll.cons (.tuple h2 rfl rfl (ReadsAll.cons (.str _ _) (ReadsAll.cons (.list hl rfl rfl (fl_all f k)) .nil))) (ReadsAll.cons (.tuple h3 rfl rfl (ReadsAll.cons (.str _ _) (ReadsAll.cons (.list hm rfl rfl (ReadsAll.cons (.int _ _) .nil)) .nil))) .nil)))⟩
theorem pin1 {m : Str → Option Value} {a : Str} {v : Value} (h : m a = some v) : m = fun y => if y = a then some v else m y := funext fun y => by
  by_cases q : y = a
  · rw [if_pos q, q, h]
  · rw [if_neg q]
/-- what stands in G and not in Gs -/
def newer (Gs G : Heap) : Heap := only G fun a => (Gs.get? a).isNone
theorem newer_mono {Gs G G' : Heap} (k : G.StaysIn G') : (newer Gs G).StaysIn (newer Gs G') := fun a o e => by
  have q : (Gs.get? a).isNone = true := by
    by_cases c : (Gs.get? a).isNone = true
    · exact c
    · unfold newer at e; rw [only_get, if_neg (by simpa using c)] at e; cases e
  exact only_of (k _ _ (only_sub _ _ e)) q
theorem newer_in {Gs G : Heap} {a : Addr} {o : Obj} (e : G.get? a = some o) (n : Gs.get? a = none) : (newer Gs G).get? a = some o := only_of e (by rw [n]; rfl)
/-- between the turns of the due loop -/
inductive DJ (w : World) (h₀ : Heap) (L : Addr) (C : LC) (V : LV) (due : Addr) (Gs : Heap) (i : Nat) (m : Str → Option Value) (nw : List (Addr × Obj)) : Prop
  | mk (G : Heap) (TL : List (Addr × Obj)) (ok : Obj) (e : Nat) (Y Z : Nat → Addr) (q0 : nw = (due, LO (((List.range i).filter (stale V.vfl V.fl C.uses V.vm V.ms)).map fun j => .ref (Y j)) e) :: (C.bk, ok) :: (L + 1 + 1 + 1, C.o3) :: (L + 1 + 1, C.o2) :: (L + 1, C.o1) :: TL) (q1 : Im h₀ G TL) (q2 : Off G [due, C.bk, L + 1 + 1 + 1, L + 1 + 1, L + 1]) (q3 : Gs.StaysIn G) (q4 : DictO w C.n (fun j => .ref (upto i (stale V.vfl V.fl C.uses V.vm V.ms) Z V.bt j)) ok) (q5 : BookIn G C.n (upto i (stale V.vfl V.fl C.uses V.vm V.ms) Z V.bt) (upto i (stale V.vfl V.fl C.uses V.vm V.ms) V.tp V.va) (upto i (stale V.vfl V.fl C.uses V.vm V.ms) V.ms V.vm)) (q6 : (∀ j, j < i → stale V.vfl V.fl C.uses V.vm V.ms j = true → Rd (newer Gs G) (.ref (Y j)) (rowD C.uses (V.fl j) j (V.ms j)) ∧ Gs.get? (Z j) = none)) (q7 : m (Str.ofString "due") = some (.ref due)) (q8 : m (Str.ofString "pen") = some (.ref C.pen)) : DJ w h₀ L C V due Gs i m nw
theorem DJ.elim {w : World} {h₀ : Heap} {L : Addr} {C : LC} {V : LV} {due : Addr} {Gs : Heap} {i : Nat} {m : Str → Option Value} {nw : List (Addr × Obj)} (J : DJ w h₀ L C V due Gs i m nw) {P : Prop} (k : ∀ (G : Heap) (TL : List (Addr × Obj)) (ok : Obj) (e : Nat) (Y Z : Nat → Addr), nw = (due, LO (((List.range i).filter (stale V.vfl V.fl C.uses V.vm V.ms)).map fun j => .ref (Y j)) e) :: (C.bk, ok) :: (L + 1 + 1 + 1, C.o3) :: (L + 1 + 1, C.o2) :: (L + 1, C.o1) :: TL → Im h₀ G TL → Off G [due, C.bk, L + 1 + 1 + 1, L + 1 + 1, L + 1] → Gs.StaysIn G → DictO w C.n (fun j => .ref (upto i (stale V.vfl V.fl C.uses V.vm V.ms) Z V.bt j)) ok → BookIn G C.n (upto i (stale V.vfl V.fl C.uses V.vm V.ms) Z V.bt) (upto i (stale V.vfl V.fl C.uses V.vm V.ms) V.tp V.va) (upto i (stale V.vfl V.fl C.uses V.vm V.ms) V.ms V.vm) → (∀ j, j < i → stale V.vfl V.fl C.uses V.vm V.ms j = true → Rd (newer Gs G) (.ref (Y j)) (rowD C.uses (V.fl j) j (V.ms j)) ∧ Gs.get? (Z j) = none) → m (Str.ofString "due") = some (.ref due) → m (Str.ofString "pen") = some (.ref C.pen) → P) : P := by
  obtain ⟨G, TL, ok, e, Y, Z, q0, q1, q2, q3, q4, q5, q6, q7, q8⟩ := J
  exact k G TL ok e Y Z q0 q1 q2 q3 q4 q5 q6 q7 q8
local macro_rules | `(tactic| walk_at "subscriptTail Subscript Name Name Constant ref int") => `(tactic| (k_here; k_dflt (refine book_item0 (by decide) (BookIn.up (by walk_at "my im") (by with_reducible assumption)) (by with_reducible assumption) ?_)))
local macro_rules | `(tactic| walk_at "subscriptTail Subscript Name Name Constant ref int") => `(tactic| (k_here; k_dflt (refine book_item1 (by decide) (BookIn.up (by walk_at "my im") (by with_reducible assumption)) (by with_reducible assumption) ?_; intro t')))
section PartLawH
theorem upto_f {i : Nat} {st : Nat → Bool} {α : Type} {f f' g : Nat → α} (h : ∀ j, j < i → f' j = f j) : upto i st f' g = upto i st f g := funext fun j => by
  unfold upto
  by_cases c : j < i ∧ st j = true
  · rw [if_pos c, if_pos c, h j c.1]
  · rw [if_neg c, if_neg c]
theorem upto_new {i : Nat} {st : Nat → Bool} {Z bt : Nat → Addr} {D : Addr} (h : st i = true) : upto (i + 1) st (fun j => if j = i then D else Z j) bt = fun j => if j = i then D else upto i st Z bt j := by
  rw [upto_yes h, upto_f (f := Z) fun j hj => by rw [if_neg (by omega)]]
  simp
theorem due_fin {w : World} {h₀ h G Gs : Heap} {L I due Yn Dn : Addr} {m : Str → Option Value} {C : LC} {V : LV} {io ok' : Obj} {e' i : Nat} {Y Z : Nat → Addr} {TL Xs : List (Addr × Obj)} (hIm : Im h₀ G TL) (off : Off G [due, C.bk, L + 1 + 1 + 1, L + 1 + 1, L + 1]) (gI : G.get? I = none) (hGs : Gs.StaysIn G)
    (hbk : BookIn G C.n (upto i (stale V.vfl V.fl C.uses V.vm V.ms) Z V.bt) (upto i (stale V.vfl V.fl C.uses V.vm V.ms) V.tp V.va) (upto i (stale V.vfl V.fl C.uses V.vm V.ms) V.ms V.vm)) (hY : ∀ j, j < i → stale V.vfl V.fl C.uses V.vm V.ms j = true → Rd (newer Gs G) (.ref (Y j)) (rowD C.uses (V.fl j) j (V.ms j)) ∧ Gs.get? (Z j) = none)
    (hst : stale V.vfl V.fl C.uses V.vm V.ms i = true) (F : Fr h₀ L h m) (N : News h₀ L h (Xs ++ ([(I, io), (due, LO ((((List.range i).filter (stale V.vfl V.fl C.uses V.vm V.ms)).map fun j => .ref (Y j)) ++ [.ref Yn]) e'), (C.bk, ok'), (L + 1 + 1 + 1, C.o3), (L + 1 + 1, C.o2), (L + 1, C.o1)] ++ TL)))
    (dis : ∀ q ∈ Xs, AllLt q.1 ([(I, io), (due, LO ((((List.range i).filter (stale V.vfl V.fl C.uses V.vm V.ms)).map fun j => .ref (Y j)) ++ [.ref Yn]) e'), (C.bk, ok'), (L + 1 + 1 + 1, C.o3), (L + 1 + 1, C.o2), (L + 1, C.o1)] ++ TL)) (b : ∀ a ∈ [due, C.bk, L + 1 + 1 + 1, L + 1 + 1, L + 1], NeA I a) (dk : DictO w C.n (fun j => if j = i then .ref Dn else .ref (upto i (stale V.vfl V.fl C.uses V.vm V.ms) Z V.bt j)) ok')
    (dn : ∃ o, (Dn, o) ∈ Xs) (rd : ∀ G' : Heap, (∀ q ∈ Xs, G'.get? q.1 = some q.2) → Rd G' (.ref Yn) (rowD C.uses (V.fl i) i (V.ms i)) ∧ ∃ t, TupAt G' Dn [.ref (V.tp i), .int (V.ms i) t]) (m1 : m (Str.ofString "due") = some (.ref due)) (m2 : m (Str.ofString "pen") = some (.ref C.pen)) :
    ∃ nw', News h₀ L h ((I, io) :: nw') ∧ (∀ q ∈ nw', q.1 ≠ I) ∧ DJ w h₀ L C V due Gs (i + 1) m nw' := by
  refine ex2k6 (hIm.redo (X := Xs) (S := [(I, io), (due, LO ((((List.range i).filter (stale V.vfl V.fl C.uses V.vm V.ms)).map fun j => .ref (Y j)) ++ [.ref Yn]) e'), (C.bk, ok'), (L + 1 + 1 + 1, C.o3), (L + 1 + 1, C.o2), (L + 1, C.o1)]) F N (fun a ha => by
    rcases List.mem_cons.mp ha with rfl | ha
    · exact gI
    · exact off a ha) (fun p hp q hq => Ne.symm (AllLt.ne (dis q hq) p (List.mem_append_left _ hp)))) ?_
  intro G' TL' I' N' off' up' xs zz7
  clear zz7
  have gI' : G'.get? I = none := off' _ (.head _)
  have frs : ∀ q ∈ Xs, Gs.get? q.1 = none := fun q hq => none_sub hGs (hIm.off (m := m) N (List.mem_append_left _ hq) (fun p hp => AllLt.ne (dis q hq) p (List.mem_append_right _ hp)))
  obtain ⟨-, t, r2⟩ := rd G' xs
  obtain ⟨r1, -⟩ := rd (newer Gs G') fun q hq => newer_in (xs q hq) (frs q hq)
  refine ⟨_, N', fun q hq => ?_, G', TL', ok', e', fun j => if j = i then Yn else Y j, fun j => if j = i then Dn else Z j, ?_, I', fun a ha => off' a (.tail _ ha), stTrans hGs up', ?_, fun j hj => ?_, fun j hj sj => ?_, m1, m2⟩
  · rcases List.mem_append.mp (show q ∈ [(due, LO ((((List.range i).filter (stale V.vfl V.fl C.uses V.vm V.ms)).map fun j => .ref (Y j)) ++ [.ref Yn]) e'), (C.bk, ok'), (L + 1 + 1 + 1, C.o3), (L + 1 + 1, C.o2), (L + 1, C.o1)] ++ TL' from hq) with hq | hq
    · exact (b q.1 (List.mem_map_of_mem (f := (·.1)) hq)).en
    · exact I'.all gI' q hq
  · rw [map_new hst]; rfl
  · exact dk.congr fun j _ => by rw [upto_new hst]; (try dsimp only); split <;> rfl
  · rw [upto_new hst, upto_yes hst, upto_yes hst]
    (try dsimp only)
    by_cases q : j = i
    · rw [if_pos q, if_pos q, if_pos q]; exact ⟨t, r2⟩
    · rw [if_neg q, if_neg q, if_neg q]; exact (hbk.up up') j hj
  · (try dsimp only)
    by_cases q : j = i
    · subst q; rw [if_pos rfl, if_pos rfl]; exact ⟨r1, let ⟨o, hd⟩ := dn; frs _ hd⟩
    · rw [if_neg q, if_neg q]; exact ⟨(hY j (by omega) sj).1.up (newer_mono up'), (hY j (by omega) sj).2⟩
theorem list_fl {prog : Program} {w : World} {A : Around} {E : Value → Shared → Prop} {s : Shared} {h₀ : Heap} {L a : Addr} {m : Str → Option Value} {news : List (Addr × Obj)} {f : List Str} {Q : Value → Shared → Prop} (F : Fr h₀ L s.heap m) (N : News h₀ L s.heap news) (ht : FlAt s.heap a f) (hf : IsFl f)
    (h : ∀ D c h' (T : Nat → Tok), Fr h₀ L h' m → News h₀ L h' ((D, LO (f.zipIdx.map fun p => Value.str p.1 (T p.2)) c) :: news) → (∀ q ∈ news, q.1 < D) → Q (.ref D) { s with heap := h' }) : wpAny (model prog w) A (call (.type "list") [.ref a]) Q E s := by
  obtain ⟨T, n, e⟩ := ht
  have hz : (f.zipIdx.map fun p => Value.str p.1 (T p.2)).length ≤ 10 := by rcases hf with rfl | rfl | rfl | rfl <;> simp
  exact list_copyKT F N (items := (f.zipIdx.map fun p => Value.str p.1 (T p.2)).toArray) ⟨_, e, rfl, n, rfl⟩ (fun D c h' F' N' l1 => h D c h' T F' N' l1) (by rw [List.size_toArray, sizeLine_eq]; omega)
def ifBody : Option Stmt → List Stmt | some (.If _ b _ _) => b | _ => []
noncomputable def rowBody : List Stmt := ifBody dueBody[1]?
local macro_rules | `(tactic| walk_at "call type:list") => `(tactic| (k_here; k_dflt (refine list_fl (by assumption) (by assumption) (by walk_at "my fl") (by walk_at "my isfl") ?_; intro D' c' h' T' F' N' l1; (try k_lt l1); (try k_sweep))))
theorem due_body {w : World} {mg mb : Str → Option Value} {dep un : Nat} {fr : Option (List Env)} {gd : Option (List Code)} {h₀ h Gs : Heap} {gens : Array GenState} {drawn : Drawn} {os : OsState} {tk : Nat} {L fa due : Addr} {cd : Value} {C : LC} {V : LV} {io : Obj} {i : Nat} {t : Tok} {m₁ : Str → Option Value} {nw : List (Addr × Obj)} {I : Addr} {Q : Flow → Shared → Prop}
    (X : (heapK w.params).In h₀) (T : TopRead VG LG mg mb h₀) (hA : dep < 800) (hU : un < 100) (n5 : C.n ≤ 5) (lb : (C.bk == sysModules) = false) (ap : Apart [due, C.bk, L + 1 + 1 + 1, L + 1 + 1, L + 1]) (d1 : C.o1.data = .cell (some (.ref C.x))) (d2 : C.o2.data = .cell (some (.ref C.bk))) (d3 : C.o3.data = .cell (some (.bool C.uses)))
    (sx : BoxAt Gs C.x C.bd C.ll V.nx V.top) (sl : LettersAt Gs C.ll C.n V.l V.tp V.ms) (sf : FlagsIn Gs C.n V.tp V.fl) (sg : FlagsIn Gs C.n V.va V.vfl)
    (hi : i < C.n) (hst : stale V.vfl V.fl C.uses V.vm V.ms i = true) (J : DJ w h₀ L C V due Gs i m₁ nw) (ne : ∀ p ∈ nw, p.1 ≠ I) (F : Fr h₀ L h (fun y => if y = Str.ofString "one" then some (.ref (V.l i)) else if y = Str.ofString "due" then some (.ref due) else if y = Str.ofString "pen" then some (.ref C.pen) else if y = Str.ofString "number" then some (Value.int ((i : Int) + 1) t) else m₁ y)) (N : News h₀ L h ((I, io) :: nw))
    (k : ∀ h' tk' m' nw', Fr h₀ L h' m' → News h₀ L h' ((I, io) :: nw') → (∀ p ∈ nw', p.1 ≠ I) → DJ w h₀ L C V due Gs (i + 1) m' nw' → Q .next ⟨h', gens, drawn, tk', os⟩) :
    wpAny (model PG w) (AR dep fr gd un) (execs rowBody (lawEnv L fa cd)) Q (fun _ _ => False) ⟨h, gens, drawn, tk, os⟩ := by
  refine DJ.elim J ?_
  clear J
  intro G TL ok e Y Z zq6 hIm off hGs hdk hbk hY m1 m2
  subst zq6
  refine Apart.elim5 ap ?_
  intro a12 a13 a14 a15 a23 a24 a25 a34 a35 a45
  have nI := allNeA_of ne [(due, LO (((List.range i).filter (stale V.vfl V.fl C.uses V.vm V.ms)).map fun j => Value.ref (Y j)) e), (C.bk, ok), (L + 1 + 1 + 1, C.o3), (L + 1 + 1, C.o2), (L + 1, C.o1)] (fun p hp => List.mem_append_left TL hp)
  have nIa : ∀ a ∈ [due, C.bk, L + 1 + 1 + 1, L + 1 + 1, L + 1], NeA I a := allNeA_all nI
  refine AllNeA.elim5 nI ?_
  intro b1 b2 b3 b4 b5
  have n100 : C.n ≤ 100 := Nat.le_trans n5 (by decide)
  have gI : G.get? I = none := hIm.off (m := fun _ => none) N (.head _) fun p hp => ne p (.tail _ (.tail _ (.tail _ (.tail _ (.tail _ hp)))))
  have f1 : G.get? due = none := off _ (.head _)
  have f2 : G.get? C.bk = none := off _ (by k_mem)
  have f3 : G.get? (L + 1 + 1 + 1) = none := off _ (by k_mem)
  have f4 : G.get? (L + 1 + 1) = none := off _ (by k_mem)
  have f5 : G.get? (L + 1) = none := off _ (by k_mem)
  have gx := sx.up hGs
  have gl := sl.up hGs
  have gf := sf.up hGs
  have gg := sg.up hGs
  have gu := FlagsIn.upto (i := i) (st := stale V.vfl V.fl C.uses V.vm V.ms) gf gg
  have hlen : (((List.range i).filter (stale V.vfl V.fl C.uses V.vm V.ms)).map fun j => Value.ref (Y j)).length ≤ 1000 := by
    have := List.length_filter_le (stale V.vfl V.fl C.uses V.vm V.ms) (List.range i)
    simp only [List.length_map, List.length_range] at this ⊢
    omega
  have N₀ : News h₀ L h ((I, io) :: (due, LO (((List.range i).filter (stale V.vfl V.fl C.uses V.vm V.ms)).map fun j => .ref (Y j)) e) :: (C.bk, ok) :: (L + 1 + 1 + 1, C.o3) :: (L + 1 + 1, C.o2) :: (L + 1, C.o1) :: TL) := N
  clear ne N
  show wpAny _ _ (execs (_ :: _) (envOfC _ { kind := _, names := _, isGenerator := _, isCoroutine := _, more := _ } _ _ _)) _ _ _
  have ei : ((i : Int) + 1 - 1).toNat = i := by omega
  cases hu : C.uses
  · walk1
    walk_at "my steps"
    rename Fr _ _ _ _ => Fz
    rename News _ _ _ _ => Nz
    rename_i D3 c3 h3 T3 l3 D2 h2 l2 lr hr lrr h4 tk4 D1 h5 l1 h6 tk6 t6 Db h7 lb' h8 ok' dk'
    rw [ei] at dk'
    have Nz' : News h₀ L h8 ([(Db, _), (D1, _), (lr, _), (D2, _), (D3, _)] ++ ([(I, io), (due, LO (_ ++ [.ref D1]) _), (C.bk, ok'), (L + 1 + 1 + 1, C.o3), (L + 1 + 1, C.o2), (L + 1, C.o1)] ++ TL)) := Nz
    refine ex1k3 (due_fin hIm off gI hGs hbk hY hst Fz Nz' (fa_cons (lb'.2.2.2.2) (fa_cons (l1.2.2.2) (fa_cons (lrr.2.2) (fa_cons (l2.2) (fa_cons (l3) (fa_nil)))))) nIa dk' ⟨_, .head _⟩ (by
      intro G' x'
      have x1 := x' _ (.head _)
      have x2 := x' _ (.tail _ (.head _))
      have x3 := x' _ (.tail _ (.tail _ (.head _)))
      have x4 := x' _ (.tail _ (.tail _ (.tail _ (.head _))))
      have x5 := x' _ (.tail _ (.tail _ (.tail _ (.tail _ (.head _)))))
      exact ⟨rd_row (rd_no hu x3 x4 x5) x2, _, _, x1⟩) rfl rfl) ?_
    intro nw' N' ne' J'
    exact k _ _ _ _ Fz N' ne' J'
  · walk1
    walk_at "my steps"
    rename Fr _ _ _ _ => Fz
    rename News _ _ _ _ => Nz
    rename_i D7 c7 h3 T3 l7 D6 h2 l6 lr hr lrr h4 tk4 D5 h5 l5 q2 h6 l2' D4 h7 l4 t7 q1 h8 l1' D3 h9 l3 q0 h10 l0 D2 h11 l2 D1 h12 l1 h13 tk13 t13 Db h14 lb' h15 ok' dk'
    rw [ei] at dk'
    have Nz' : News h₀ L h15 ([(Db, _), (D1, _), (D2, _), (q0, _), (D3, _), (q1, _), (D4, _), (q2, _), (D5, _), (lr, _), (D6, _), (D7, _)] ++ ([(I, io), (due, LO (_ ++ [.ref D1]) _), (C.bk, ok'), (L + 1 + 1 + 1, C.o3), (L + 1 + 1, C.o2), (L + 1, C.o1)] ++ TL)) := Nz
    refine ex1k3 (due_fin hIm off gI hGs hbk hY hst Fz Nz' (fa_cons (lb'.2.2.2.2.2.2.2.2.2.2.2) (fa_cons (l1.2.2.2.2.2.2.2.2.2.2) (fa_cons (l2.2.2.2.2.2.2.2.2.2) (fa_cons (l0.2.2.2.2.2.2.2.2) (fa_cons (l3.2.2.2.2.2.2.2) (fa_cons (l1'.2.2.2.2.2.2) (fa_cons (l4.2.2.2.2.2) (fa_cons (l2'.2.2.2.2) (fa_cons (l5.2.2.2) (fa_cons (lrr.2.2) (fa_cons (l6.2) (fa_cons (l7) (fa_nil))))))))))))) nIa dk' ⟨_, .head _⟩ (by
      intro G' x'
      have x1 := x' _ (.head _)
      have x2 := x' _ (.tail _ (.head _))
      have x3 := x' _ (.tail _ (.tail _ (.head _)))
      have x4 := x' _ (.tail _ (.tail _ (.tail _ (.head _))))
      have x5 := x' _ (.tail _ (.tail _ (.tail _ (.tail _ (.head _)))))
      have x6 := x' _ (.tail _ (.tail _ (.tail _ (.tail _ (.tail _ (.head _))))))
      have x7 := x' _ (.tail _ (.tail _ (.tail _ (.tail _ (.tail _ (.tail _ (.head _)))))))
      have x8 := x' _ (.tail _ (.tail _ (.tail _ (.tail _ (.tail _ (.tail _ (.tail _ (.head _))))))))
      have x9 := x' _ (.tail _ (.tail _ (.tail _ (.tail _ (.tail _ (.tail _ (.tail _ (.tail _ (.head _)))))))))
      have x10 := x' _ (.tail _ (.tail _ (.tail _ (.tail _ (.tail _ (.tail _ (.tail _ (.tail _ (.tail _ (.head _))))))))))
      have x11 := x' _ (.tail _ (.tail _ (.tail _ (.tail _ (.tail _ (.tail _ (.tail _ (.tail _ (.tail _ (.tail _ (.head _)))))))))))
      have x12 := x' _ (.tail _ (.tail _ (.tail _ (.tail _ (.tail _ (.tail _ (.tail _ (.tail _ (.tail _ (.tail _ (.tail _ (.head _))))))))))))
      exact ⟨rd_row (rd_yes hu x3 x9 x11 x12 x5 x6) x2, _, _, x1⟩) rfl rfl) ?_
    intro nw' N' ne' J'
    exact k _ _ _ _ Fz N' ne' J'
theorem due_turn {w : World} {mg mb : Str → Option Value} {dep un : Nat} {fr : Option (List Env)} {gd : Option (List Code)} {h₀ h Gs : Heap} {gens : Array GenState} {drawn : Drawn} {os : OsState} {tk : Nat} {L fa due : Addr} {cd : Value} {C : LC} {V : LV} {io : Obj} {i : Nat} {t : Tok} {m₁ : Str → Option Value} {nw : List (Addr × Obj)} {I : Addr} {Q : Flow → Shared → Prop}
    (X : (heapK w.params).In h₀) (T : TopRead VG LG mg mb h₀) (hA : dep < 800) (hU : un < 100) (n5 : C.n ≤ 5) (lb : (C.bk == sysModules) = false) (ap : Apart [due, C.bk, L + 1 + 1 + 1, L + 1 + 1, L + 1]) (d1 : C.o1.data = .cell (some (.ref C.x))) (d2 : C.o2.data = .cell (some (.ref C.bk))) (d3 : C.o3.data = .cell (some (.bool C.uses)))
    (sx : BoxAt Gs C.x C.bd C.ll V.nx V.top) (sl : LettersAt Gs C.ll C.n V.l V.tp V.ms) (sf : FlagsIn Gs C.n V.tp V.fl) (sg : FlagsIn Gs C.n V.va V.vfl)
    (hi : i < C.n) (J : DJ w h₀ L C V due Gs i m₁ nw) (ne : ∀ p ∈ nw, p.1 ≠ I) (F : Fr h₀ L h (fun y => if y = Str.ofString "number" then some (.int ((i : Int) + 1) t) else m₁ y)) (N : News h₀ L h ((I, io) :: nw)) :
    wpAny (model PG w) (AR dep fr gd un) (execs dueBody (lawEnv L fa cd)) (ItPost h₀ L (DJ w h₀ L C V due Gs (i + 1)) I io ⟨h, gens, drawn, tk, os⟩ Q) (fun _ _ => False) ⟨h, gens, drawn, tk, os⟩ := by
  refine DJ.elim J ?_
  clear J
  intro G TL ok e Y Z zq6 hIm off hGs hdk hbk hY m1 m2
  subst zq6
  have ap₀ := ap
  have ne₀ := ne
  refine Apart.elim5 ap ?_
  intro a12 a13 a14 a15 a23 a24 a25 a34 a35 a45
  have nI := allNeA_of ne [(due, LO (((List.range i).filter (stale V.vfl V.fl C.uses V.vm V.ms)).map fun j => Value.ref (Y j)) e), (C.bk, ok), (L + 1 + 1 + 1, C.o3), (L + 1 + 1, C.o2), (L + 1, C.o1)] (fun p hp => List.mem_append_left TL hp)
  refine AllNeA.elim5 nI ?_
  intro b1 b2 b3 b4 b5
  have n100 : C.n ≤ 100 := Nat.le_trans n5 (by decide)
  have gI : G.get? I = none := hIm.off (m := fun _ => none) N (.head _) fun p hp => ne p (.tail _ (.tail _ (.tail _ (.tail _ (.tail _ hp)))))
  have f1 : G.get? due = none := off _ (.head _)
  have f2 : G.get? C.bk = none := off _ (by k_mem)
  have f3 : G.get? (L + 1 + 1 + 1) = none := off _ (by k_mem)
  have f4 : G.get? (L + 1 + 1) = none := off _ (by k_mem)
  have f5 : G.get? (L + 1) = none := off _ (by k_mem)
  have gx := sx.up hGs
  have gl := sl.up hGs
  have gf := sf.up hGs
  have gg := sg.up hGs
  have gu := FlagsIn.upto (i := i) (st := stale V.vfl V.fl C.uses V.vm V.ms) gf gg
  have hlen : (((List.range i).filter (stale V.vfl V.fl C.uses V.vm V.ms)).map fun j => Value.ref (Y j)).length ≤ 1000 := by
    have := List.length_filter_le (stale V.vfl V.fl C.uses V.vm V.ms) (List.range i)
    simp only [List.length_map, List.length_range] at this ⊢
    omega
  have em : (fun y => if y = Str.ofString "number" then some (Value.int ((i : Int) + 1) t) else m₁ y) = fun y => if y = Str.ofString "due" then some (.ref due) else if y = Str.ofString "pen" then some (.ref C.pen) else if y = Str.ofString "number" then some (Value.int ((i : Int) + 1) t) else m₁ y := funext fun y => by
    by_cases q : y = Str.ofString "due"
    · subst q; rw [if_pos rfl, if_neg (by decide), m1]
    · rw [if_neg q]
      by_cases q : y = Str.ofString "pen"
      · subst q; rw [if_pos rfl, if_neg (by decide), m2]
      · rw [if_neg q]
  rw [em] at F
  clear ne em
  show wpAny _ _ (execs (_ :: _) (envOfC _ { kind := _, names := _, isGenerator := _, isCoroutine := _, more := _ } _ _ _)) _ _ _
  have N₀ : News h₀ L h ((I, io) :: (due, LO (((List.range i).filter (stale V.vfl V.fl C.uses V.vm V.ms)).map fun j => .ref (Y j)) e) :: (C.bk, ok) :: (L + 1 + 1 + 1, C.o3) :: (L + 1 + 1, C.o2) :: (L + 1, C.o1) :: TL) := N
  clear N
  have no : stale V.vfl V.fl C.uses V.vm V.ms i = false → ∀ h' tk' m', Fr h₀ L h' m' → News h₀ L h' ((I, io) :: (due, LO (((List.range i).filter (stale V.vfl V.fl C.uses V.vm V.ms)).map fun j => .ref (Y j)) e) :: (C.bk, ok) :: (L + 1 + 1 + 1, C.o3) :: (L + 1 + 1, C.o2) :: (L + 1, C.o1) :: TL) → m' (Str.ofString "due") = some (.ref due) → m' (Str.ofString "pen") = some (.ref C.pen) →
      ItEnd h₀ L (DJ w h₀ L C V due Gs (i + 1)) I io ⟨h, gens, drawn, tk, os⟩ ⟨h', gens, drawn, tk', os⟩ := fun hst h' tk' m' F' N' z1 z2 =>
    ItEnd.intro F' N' (by k_all) ⟨G, TL, ok, e, Y, Z, by rw [map_old hst], hIm, off, hGs, by rw [upto_no hst]; exact hdk, by rw [upto_no hst, upto_no hst, upto_no hst]; exact hbk, fun j hj sj => hY j (by
      rcases Nat.lt_succ_iff_lt_or_eq.mp hj with q | q
      · exact q
      · rw [q, hst] at sj; cases sj) sj, z1, z2⟩
  have J₀ : DJ w h₀ L C V due Gs i m₁ ((due, LO (((List.range i).filter (stale V.vfl V.fl C.uses V.vm V.ms)).map fun j => .ref (Y j)) e) :: (C.bk, ok) :: (L + 1 + 1 + 1, C.o3) :: (L + 1 + 1, C.o2) :: (L + 1, C.o1) :: TL) := ⟨G, TL, ok, e, Y, Z, rfl, hIm, off, hGs, hdk, hbk, hY, m1, m2⟩
  walk_at "my steps"
  all_goals (simp only [upto_at] at *)
  all_goals first
    | exact no (stale_f1 (by assumption) (by assumption)).symm _ _ _ (by assumption) (by assumption) rfl rfl
    | exact no (stale_f2 (by assumption) (by assumption)).symm _ _ _ (by assumption) (by assumption) rfl rfl
    | (have st1 := (stale_t1 (vfl := V.vfl) (fl := V.fl) (uses := C.uses) (vm := V.vm) (ms := V.ms) (i := i) (by assumption)).symm
       refine due_body X T hA hU n5 lb ap₀ d1 d2 d3 sx sl sf sg hi st1 J₀ ne₀ (by assumption) (by assumption) fun h' tk' m' nw' F' N' ne' J' => ?_
       clear J₀
       walk_at "my steps"
       exact ItEnd.intro F' N' ne' J')
    | (have st1 := (stale_t2 (vfl := V.vfl) (fl := V.fl) (uses := C.uses) (vm := V.vm) (ms := V.ms) (i := i) (by assumption) (by assumption)).symm
       refine due_body X T hA hU n5 lb ap₀ d1 d2 d3 sx sl sf sg hi st1 J₀ ne₀ (by assumption) (by assumption) fun h' tk' m' nw' F' N' ne' J' => ?_
       clear J₀
       walk_at "my steps"
       exact ItEnd.intro F' N' ne' J')
end PartLawH
section PartLawI
/-- a list of texts -/
def StrsAt (h : Heap) (l : Addr) (f : List Str) : Prop := ∃ (Y : Nat → Value) (c : Nat), h.get? l = some (LO ((List.range f.length).map Y) c) ∧ ∀ (i : Nat) x, f[i]? = some x → ∃ t, Y i = .str x t
theorem StrsAt.up {h h' : Heap} {l : Addr} {f : List Str} (k : h.StaysIn h') : StrsAt h l f → StrsAt h' l f := fun ⟨Y, c, e, z⟩ => ⟨Y, c, k _ _ e, z⟩
theorem reads_idx {h : Heap} : ∀ (f : List Str) (Y : Nat → Value), (∀ (i : Nat) x, f[i]? = some x → ∃ t, Y i = .str x t) → ReadsAll h ((List.range f.length).map Y) (f.map PyData.str) []
  | [], _, _ => .nil
  | x :: r, Y, q => by
    obtain ⟨t, e⟩ := q 0 x rfl
    rw [List.length_cons, List.range_succ_eq_map, List.map_cons, List.map_map, List.map_cons, e]
    exact ReadsAll.cons (as := []) (bs := []) (.str _ _) (reads_idx r (Y ∘ Nat.succ) fun i x' e' => q (i + 1) x' (by simpa using e'))
theorem StrsAt.reads {h : Heap} {l : Addr} {f : List Str} : StrsAt h l f → Reads h (.ref l) (.list (f.map PyData.str)) [l] := fun ⟨Y, c, e, z⟩ => .list e rfl rfl (reads_idx f Y z)
/-- a pair that heard holds, made since H -/
def HP (H : Heap) (uses : Bool) (f : List Str) (u : Int) (ml : Addr) (i : Nat) (y : Value) (h : Heap) : Prop :=
  ∃ a, y = .ref a ∧ H.get? a = none ∧
    if uses = true ∧ i = 0 then ∃ t tu, TupAt h a [.str (Str.ofString "UID") t, .int u tu]
    else if uses = true ∧ i = 2 then ∃ t, TupAt h a [.str (Str.ofString "MODSEQ") t, .ref ml]
    else ∃ t l, TupAt h a [.str (Str.ofString "FLAGS") t, .ref l] ∧ H.get? l = none ∧ StrsAt h l f
theorem HP.up {H : Heap} {uses : Bool} {f : List Str} {u : Int} {ml : Addr} {i : Nat} {y : Value} {h h' : Heap} (k : h.StaysIn h') : HP H uses f u ml i y h → HP H uses f u ml i y h' := by
  rintro ⟨a, e, n, z⟩
  refine ⟨a, e, n, ?_⟩
  split at z
  · rename_i c; rw [if_pos c]; obtain ⟨t, tu, z⟩ := z; exact ⟨t, tu, z.up k⟩
  · rename_i c; rw [if_neg c]
    split at z
    · rename_i c; rw [if_pos c]; obtain ⟨t, z⟩ := z; exact ⟨t, z.up k⟩
    · rename_i c; rw [if_neg c]; obtain ⟨t, l, z1, z2, z3⟩ := z; exact ⟨t, l, z1.up k, z2, z3.up k⟩
/-- the stale letters' numbers -/
abbrev LV.news (V : LV) (C : LC) : List Nat := (List.range C.n).filter (stale V.vfl V.fl C.uses V.vm V.ms)
/-- between the turns of the heard loop -/
inductive HJ (h₀ : Heap) (C : LC) (V : LV) (due heard : Addr) (Gs : Heap) (k : Nat) (m : Str → Option Value) (nw : List (Addr × Obj)) : Prop
  | mk (G : Heap) (TL : List (Addr × Obj)) (e : Nat) (W : Nat → Addr) (q0 : nw = (heard, LO (((V.news C).take k).map fun j => .ref (W j)) e) :: TL) (q1 : Im h₀ G TL) (q2 : G.get? heard = none) (q3 : Gs.StaysIn G) (q4 : (∀ j ∈ (V.news C).take k, Rd G (.ref (W j)) (rowD C.uses (V.fl j) j (V.ms j)))) (q5 : m (Str.ofString "heard") = some (.ref heard)) (q6 : m (Str.ofString "due") = some (.ref due)) (q7 : m (Str.ofString "pen") = some (.ref C.pen)) : HJ h₀ C V due heard Gs k m nw
theorem HJ.elim {h₀ : Heap} {C : LC} {V : LV} {due heard : Addr} {Gs : Heap} {k : Nat} {m : Str → Option Value} {nw : List (Addr × Obj)} (J : HJ h₀ C V due heard Gs k m nw) {P : Prop} (kk : ∀ (G : Heap) (TL : List (Addr × Obj)) (e : Nat) (W : Nat → Addr), nw = (heard, LO (((V.news C).take k).map fun j => .ref (W j)) e) :: TL → Im h₀ G TL → G.get? heard = none → Gs.StaysIn G → (∀ j ∈ (V.news C).take k, Rd G (.ref (W j)) (rowD C.uses (V.fl j) j (V.ms j))) → m (Str.ofString "heard") = some (.ref heard) → m (Str.ofString "due") = some (.ref due) → m (Str.ofString "pen") = some (.ref C.pen) → P) : P := by
  obtain ⟨G, TL, e, W, q0, q1, q2, q3, q4, q5, q6, q7⟩ := J
  exact kk G TL e W q0 q1 q2 q3 q4 q5 q6 q7
theorem take_new {l : List Nat} {k j : Nat} (h : l[k]? = some j) : l.take (k + 1) = l.take k ++ [j] := by
  rw [List.take_add_one, h]; rfl
theorem news_lt {n : Nat} {p : Nat → Bool} {k j i : Nat} (h : ((List.range n).filter p)[k]? = some j) (hi : i ∈ ((List.range n).filter p).take k) : i < j := by
  have hp : ((List.range n).filter p).Pairwise (· < ·) := List.Pairwise.filter _ List.pairwise_lt_range
  obtain ⟨m, hm, e⟩ := List.getElem_of_mem hi
  have hm' : m < k ∧ m < ((List.range n).filter p).length := by rw [List.length_take] at hm; omega
  obtain ⟨hk, e'⟩ := List.getElem?_eq_some_iff.mp h
  have := List.pairwise_iff_getElem.mp hp m k hm'.2 hk hm'.1
  rw [List.getElem_take] at e
  rw [e, e'] at this
  exact this
theorem heard_fin {h₀ G Gs : Heap} {I due heard Tt : Addr} {m' : Str → Option Value} {C : LC} {V : LV} {k j e : Nat} {W : Nat → Addr} {TL : List (Addr × Obj)} (hk : (V.news C)[k]? = some j) (I' : Im h₀ G TL) (f1 : G.get? heard = none) (gI : G.get? I = none) (nI : NeA I heard) (hGs : Gs.StaysIn G) (hW : ∀ i ∈ (V.news C).take k, Rd G (.ref (W i)) (rowD C.uses (V.fl i) i (V.ms i))) (rd : Rd G (.ref Tt) (rowD C.uses (V.fl j) j (V.ms j)))
    (m1 : m' (Str.ofString "heard") = some (.ref heard)) (m2 : m' (Str.ofString "due") = some (.ref due)) (m3 : m' (Str.ofString "pen") = some (.ref C.pen)) :
    (∀ q ∈ (heard, LO ((((V.news C).take k).map fun i => .ref (W i)) ++ [.ref Tt]) (e + 1)) :: TL, q.1 ≠ I) ∧ HJ h₀ C V due heard Gs (k + 1) m' ((heard, LO ((((V.news C).take k).map fun i => .ref (W i)) ++ [.ref Tt]) (e + 1)) :: TL) := by
  refine ⟨fun q hq => ?_, G, TL, e + 1, fun i => if i = j then Tt else W i, ?_, I', f1, hGs, fun i hi => ?_, m1, m2, m3⟩
  · rcases List.mem_cons.mp hq with rfl | hq
    · exact nI.en
    · exact I'.all gI q hq
  · rw [take_new hk, List.map_append]
    have : ((V.news C).take k).map (fun i => Value.ref (if i = j then Tt else W i)) = ((V.news C).take k).map fun i => .ref (W i) := List.map_congr_left fun i hi => by
      have := news_lt hk hi
      rw [if_neg (by omega)]
    rw [this]; simp
  · rw [take_new hk] at hi
    (try dsimp only)
    rcases List.mem_append.mp hi with hi | hi
    · have := news_lt hk hi
      rw [if_neg (by omega)]; exact hW i hi
    · rw [List.mem_singleton] at hi; subst hi; rw [if_pos rfl]; exact rd
local macro_rules | `(tactic| walk_at "eval ListComp") => `(tactic| (k_here; k_dflt (refine' cp_eval2 ?c ?k ?n ?_ ?s; (case c => exact rfl); (case k => rfl); (case n => decide); (case s => (intro _; rfl)))))
local macro_rules | `(tactic| walk_at "newTuple") => `(tactic| (k_here; k_dflt (refine new_tuple ?_ (by simp); intro D' h' k' f' g'; (have F'' := Fr.keeps (by with_reducible assumption) k'); (try k_sweep); (try dsimp only))))
local macro_rules | `(tactic| walk_at "getAttr ref") => `(tactic| (k_here; (with_reducible show wpAny _ _ (getAttr (Value.ref _) (PySem.Str.ofString "text") _) _ _ _); k_dflt (refine atom_text (by assumption) (by assumption) (AtomAt.up (Fr.keep (by with_reducible assumption)) (by with_reducible assumption)) ?_; intro t')))
theorem heard_turn {w : World} {mg mb : Str → Option Value} {dep un : Nat} {fr : Option (List Env)} {gd : Option (List Code)} {h₀ Gs : Heap} {s₁ : Shared} {L fa due heard p : Addr} {cd : Value} {C : LC} {V : LV} {io : Obj} {k j : Nat} {t1 t2 : Tok} {m₁ : Str → Option Value} {nw : List (Addr × Obj)} {I : Addr}
    (X : (heapK w.params).In h₀) (T : TopRead VG LG mg mb h₀) (hA : dep < 800) (hU : un < 100) (n5 : C.n ≤ 5) (hk : (V.news C)[k]? = some j) (hp : PairsAt Gs p (V.fl j) ((j : Int) + 1) (V.ms j) C.uses) (hf : IsFl (V.fl j))
    (J : HJ h₀ C V due heard Gs k m₁ nw) (ne : ∀ p ∈ nw, p.1 ≠ I) (F : Fr h₀ L s₁.heap (fun q => if q = Str.ofString "pairs" then some (.ref p) else if q = Str.ofString "number" then some (.int ((j : Int) + 1) t2) else if q = Str.ofString "word" then some (.str (Str.ofString "fetch") t1) else m₁ q)) (N : News h₀ L s₁.heap ((I, io) :: nw)) :
    wpAny (model PG w) (AR dep fr gd un) (execs heardBody (lawEnv L fa cd)) (fun f s₂ => f = .next ∧ ItEnd h₀ L (HJ h₀ C V due heard Gs (k + 1)) I io s₁ s₂) (fun _ _ => False) s₁ := by
  refine HJ.elim J ?_
  clear J
  intro G TL e W zq4 hIm f1 hGs hW m1 m2 m3
  subst zq4
  obtain ⟨h, gens, drawn, tk, os⟩ := s₁
  have nI : NeA I heard := Ne.symm (ne _ (.head _))
  have gI : G.get? I = none := hIm.off (m := fun _ => none) N (.head _) fun p hp => ne p (.tail _ hp)
  have em : (fun q => if q = Str.ofString "pairs" then some (Value.ref p) else if q = Str.ofString "number" then some (.int ((j : Int) + 1) t2) else if q = Str.ofString "word" then some (.str (Str.ofString "fetch") t1) else m₁ q) = fun q => if q = Str.ofString "heard" then some (.ref heard) else if q = Str.ofString "due" then some (.ref due) else if q = Str.ofString "pen" then some (.ref C.pen) else if q = Str.ofString "pairs" then some (Value.ref p) else if q = Str.ofString "number" then some (.int ((j : Int) + 1) t2) else if q = Str.ofString "word" then some (.str (Str.ofString "fetch") t1) else m₁ q := funext fun y => by
    by_cases q : y = Str.ofString "heard"
    · subst q; rw [if_pos rfl, if_neg (by decide), if_neg (by decide), if_neg (by decide), m1]
    · rw [if_neg q]
      by_cases q : y = Str.ofString "due"
      · subst q; rw [if_pos rfl, if_neg (by decide), if_neg (by decide), if_neg (by decide), m2]
      · rw [if_neg q]
        by_cases q : y = Str.ofString "pen"
        · subst q; rw [if_pos rfl, if_neg (by decide), if_neg (by decide), if_neg (by decide), m3]
        · rw [if_neg q]
  rw [em] at F
  have ne₀ := ne
  clear ne em
  have F₀ : Fr h₀ L h _ := F
  have N₀ : News h₀ L h ((I, io) :: (heard, LO (((V.news C).take k).map fun j => .ref (W j)) e) :: TL) := N
  clear F N
  show wpAny _ _ (execs (_ :: _) (envOfC _ { kind := _, names := _, isGenerator := _, isCoroutine := _, more := _ } _ _ _)) _ _ _
  walk_at "my steps"
  have hh₀ : G.StaysIn h := hIm.stays F₀ N₀ fun p hp => .tail _ (.tail _ hp)
  have hlen : (((V.news C).take k).map fun j => Value.ref (W j)).length ≤ 1000 := by
    have h2 : (V.news C).length ≤ C.n := by
      have := List.length_filter_le (stale V.vfl V.fl C.uses V.vm V.ms) (List.range C.n)
      rwa [List.length_range] at this
    rw [List.length_map, List.length_take]
    omega
  unfold PairsAt at hp
  cases hu : C.uses
  · rw [hu, if_neg (by decide)] at hp
    obtain ⟨p2, al, t2', q1, q3, q4⟩ := hp
    have q1' := q1.up (stTrans hGs hh₀)
    obtain ⟨A, ea, qa, qb⟩ := q4.up (stTrans hGs hh₀)
    obtain ⟨nq, q1'⟩ := q1'
    refine cp_pair (l := p) (items := #[.ref p2]) (ta := fun i => p2) (v1 := fun i => .str (Str.ofString "FLAGS") t2') (v2 := fun i => .ref al)
      ⟨_, q1', rfl, nq, rfl⟩ rfl (by simp) (by decide) rfl rfl rfl (by decide) ?P (HP h false (V.fl j) ((j : Int) + 1) 0) (fun i y a b k z => z.up k) ?elt ?done
    case P =>
      intro i v e
      rcases i with _ | i
      · cases e; exact ⟨rfl, q3.up (stTrans hGs hh₀)⟩
      · simp at e
    case elt =>
      intro C' i hh tk m hi F₂ hm1 hm2
      have X₂ := X.keeps (stTrans F₀.keep F₂.keep)
      have kk2 := F₂.keep
      rcases i with _ | i
      · replace hm1 : m _ = some (.str (Str.ofString "FLAGS") t2') := hm1
        replace hm2 : m _ = some (.ref al) := hm2
        walk_at "my steps"
        show CpAt PG w _ _ _ _ _ _ [] _ _ _ none _ _ _ _
        refine cp_map (l := al) (items := ((List.range (V.fl j).length).map fun i => Value.ref (A i)).toArray) (.inl ⟨_, F₂.keep _ _ qa, rfl, ea, rfl⟩) rfl (by rcases hf with q | q | q | q <;> rw [q] <;> simp) (by decide) rfl rfl (fun i y _ => ∀ x, (V.fl j)[i]? = some x → ∃ t, y = .str x t) (fun _ _ _ _ _ e => e) ?_ ?_
        · intro C2 i2 v h2 tk2 m2' hv F₃ hm3
          obtain ⟨hi2, rfl⟩ := range_item hv
          have hx : (V.fl j)[i2]? = some (V.fl j)[i2] := List.getElem?_eq_getElem hi2
          have hat : AtomAt hh (A i2) (V.fl j)[i2] := (qb i2 _ hx).up F₂.keep
          walk_at "my steps"
          exact EltEnd.intro (fun _ _ e => e) fun x' e' => ⟨_, by rw [hx] at e'; cases e'; rfl⟩
        · intro D2 h2 tk2 n2 Y2 s2 n2' g2 hY2
          have e0 : ((List.range (V.fl j).length).map fun i => Value.ref (A i)).toArray.size = (V.fl j).length := by simp
          rw [e0] at g2 hY2
          have Fj := Fr.keeps F₂ s2
          clear F₂
          walk_at "my steps"
          rename_i D' h' k' f' g' F''
          refine EltEnd.intro (stTrans s2 k') ⟨D', rfl, none_sub (stTrans kk2 s2) f', ?_⟩
          rw [if_neg (fun x => Bool.noConfusion x.1), if_neg (fun x => Bool.noConfusion x.1)]
          exact ⟨_, D2, ⟨0, grow_new g' (none_sub s2 f')⟩, none_sub kk2 n2', Y2, n2, grow_new (k' _ _ g2) n2', fun i x e => hY2 i (List.getElem?_eq_some_iff.mp e).1 x e⟩
      · exact absurd hi (by simp)
    case done =>
      intro D hD tkD nD Y sD fD gD hY
      have Fa := Fr.keeps F₀ sD
      have Na := News.grown N₀ sD
      walk1
      k_dflt (refine new_tuple ?_ (by simp))
      intro Tt hT kT fT gT
      refine ex2k6 (Im.next (S := [(I, io), (heard, _)]) hIm F₀ N₀ (fa_cons (gI) (fa_cons (f1) (fa_nil))) (stTrans sD kT)) ?_
      intro G' TL' I' F' N' n' up' upz
      have inG : ∀ a o, hT.get? a = some o → h.get? a = none → G'.get? a = some o := fun a o e n => upz (bare h₀) bare_sub _ _ (grow_new e n)
      have gI' := n' _ (.head _)
      have f1' := n' _ (.tail _ (.head _))
      obtain ⟨a1, y1, b1, z1⟩ := hY 0 (by simp)
      rw [if_neg (fun x => Bool.noConfusion x.1), if_neg (fun x => Bool.noConfusion x.1)] at z1
      obtain ⟨u1, l1, ⟨w1, z1⟩, nl, Y1, c1, z1', z1''⟩ := z1
      have gD' : hD.get? D = some (LO [.ref a1] nD) := by rw [gD, ← y1]; rfl
      have rd : Rd G' (.ref Tt) (rowD C.uses (V.fl j) j (V.ms j)) := by
        refine rd_row ?_ (inG _ _ gT (none_sub sD fT))
        unfold pairsD
        rw [hu, if_neg (by decide)]
        refine ⟨_, .list (inG _ _ (kT _ _ gD') fD) rfl rfl (ReadsAll.cons (.tuple (inG _ _ (kT _ _ z1) b1) rfl rfl (ReadsAll.cons (.str _ _) (ReadsAll.cons (StrsAt.reads (h := G') ⟨Y1, c1, inG _ _ (kT _ _ z1') nl, z1''⟩) .nil))) .nil)⟩
      have hW' : ∀ i ∈ (V.news C).take k, Rd G' (.ref (W i)) (rowD C.uses (V.fl i) i (V.ms i)) := fun i hi => (hW i hi).up up'
      obtain ⟨z1, z2⟩ := heard_fin (h₀ := h₀) (G := G') (Gs := Gs) (due := due) (m' := fun q => if q = Str.ofString "heard" then some (.ref heard) else if q = Str.ofString "due" then some (.ref due) else if q = Str.ofString "pen" then some (.ref C.pen) else if q = Str.ofString "pairs" then some (Value.ref p) else if q = Str.ofString "number" then some (.int ((j : Int) + 1) t2) else if q = Str.ofString "word" then some (.str (Str.ofString "fetch") t1) else m₁ q) (e := e) hk I' f1' gI' nI (stTrans hGs up') hW' rd rfl rfl rfl
      simp only [List.cons_append, List.nil_append] at N'
      clear Fa Na F₀ N₀ upz hIm
      have tlI : ∀ q ∈ TL', q.1 ≠ I := I'.all gI'
      walk_at "my steps"
      exact ItEnd.intro (by assumption) (by assumption) z1 z2
  · rw [hu, if_pos rfl] at hp
    obtain ⟨p1, p2, p3, al, ml, t1', t2', t3', tu, tm, q1, q2, q3, q4, q5, q6⟩ := hp
    have q1' := q1.up (stTrans hGs hh₀)
    obtain ⟨A, ea, qa, qb⟩ := q4.up (stTrans hGs hh₀)
    obtain ⟨nq, q1'⟩ := q1'
    refine cp_pair (l := p) (items := #[.ref p1, .ref p2, .ref p3]) (ta := fun i => if i = 0 then p1 else if i = 1 then p2 else p3) (v1 := fun i => if i = 0 then .str (Str.ofString "UID") t1' else if i = 1 then .str (Str.ofString "FLAGS") t2' else .str (Str.ofString "MODSEQ") t3') (v2 := fun i => if i = 0 then .int ((j : Int) + 1) tu else if i = 1 then .ref al else .ref ml)
      ⟨_, q1', rfl, nq, rfl⟩ rfl (by simp) (by decide) rfl rfl rfl (by decide) ?P (HP h true (V.fl j) ((j : Int) + 1) ml) (fun i y a b k z => z.up k) ?elt ?done
    case P =>
      intro i v e
      rcases i with _ | _ | _ | i
      · cases e; exact ⟨rfl, q2.up (stTrans hGs hh₀)⟩
      · cases e; exact ⟨rfl, q3.up (stTrans hGs hh₀)⟩
      · cases e; exact ⟨rfl, q5.up (stTrans hGs hh₀)⟩
      · simp at e
    case elt =>
      intro C' i hh tk m hi F₂ hm1 hm2
      have X₂ := X.keeps (stTrans F₀.keep F₂.keep)
      have kk2 := F₂.keep
      rcases i with _ | _ | _ | i
      · replace hm1 : m _ = some (.str (Str.ofString "UID") t1') := hm1
        replace hm2 : m _ = some (.int ((j : Int) + 1) tu) := hm2
        walk_at "my steps"
        rename_i D' h' k' f' g' F''
        refine EltEnd.intro k' ⟨D', rfl, none_sub kk2 f', ?_⟩
        rw [if_pos ⟨rfl, rfl⟩]
        exact ⟨_, _, 0, grow_new g' f'⟩
      · replace hm1 : m _ = some (.str (Str.ofString "FLAGS") t2') := hm1
        replace hm2 : m _ = some (.ref al) := hm2
        walk_at "my steps"
        show CpAt PG w _ _ _ _ _ _ [] _ _ _ none _ _ _ _
        refine cp_map (l := al) (items := ((List.range (V.fl j).length).map fun i => Value.ref (A i)).toArray) (.inl ⟨_, F₂.keep _ _ qa, rfl, ea, rfl⟩) rfl (by rcases hf with q | q | q | q <;> rw [q] <;> simp) (by decide) rfl rfl (fun i y _ => ∀ x, (V.fl j)[i]? = some x → ∃ t, y = .str x t) (fun _ _ _ _ _ e => e) ?_ ?_
        · intro C2 i2 v h2 tk2 m2' hv F₃ hm3
          obtain ⟨hi2, rfl⟩ := range_item hv
          have hx : (V.fl j)[i2]? = some (V.fl j)[i2] := List.getElem?_eq_getElem hi2
          have hat : AtomAt hh (A i2) (V.fl j)[i2] := (qb i2 _ hx).up F₂.keep
          walk_at "my steps"
          exact EltEnd.intro (fun _ _ e => e) fun x' e' => ⟨_, by rw [hx] at e'; cases e'; rfl⟩
        · intro D2 h2 tk2 n2 Y2 s2 n2' g2 hY2
          have e0 : ((List.range (V.fl j).length).map fun i => Value.ref (A i)).toArray.size = (V.fl j).length := by simp
          rw [e0] at g2 hY2
          have Fj := Fr.keeps F₂ s2
          clear F₂
          walk_at "my steps"
          rename_i D' h' k' f' g' F''
          refine EltEnd.intro (stTrans s2 k') ⟨D', rfl, none_sub (stTrans kk2 s2) f', ?_⟩
          rw [if_neg (by decide), if_neg (by decide)]
          exact ⟨_, D2, ⟨0, grow_new g' (none_sub s2 f')⟩, none_sub kk2 n2', Y2, n2, grow_new (k' _ _ g2) n2', fun i x e => hY2 i (List.getElem?_eq_some_iff.mp e).1 x e⟩
      · replace hm1 : m _ = some (.str (Str.ofString "MODSEQ") t3') := hm1
        replace hm2 : m _ = some (.ref ml) := hm2
        walk_at "my steps"
        rename_i D' h' k' f' g' F''
        refine EltEnd.intro k' ⟨D', rfl, none_sub kk2 f', ?_⟩
        rw [if_neg (by decide), if_pos ⟨rfl, rfl⟩]
        exact ⟨_, 0, grow_new g' f'⟩
      · exact absurd hi (by simp)
    case done =>
      intro D hD tkD nD Y sD fD gD hY
      have Fa := Fr.keeps F₀ sD
      have Na := News.grown N₀ sD
      walk1
      k_dflt (refine new_tuple ?_ (by simp))
      intro Tt hT kT fT gT
      refine ex2k6 (Im.next (S := [(I, io), (heard, _)]) hIm F₀ N₀ (fa_cons (gI) (fa_cons (f1) (fa_nil))) (stTrans sD kT)) ?_
      intro G' TL' I' F' N' n' up' upz
      have inG : ∀ a o, hT.get? a = some o → h.get? a = none → G'.get? a = some o := fun a o e n => upz (bare h₀) bare_sub _ _ (grow_new e n)
      have gI' := n' _ (.head _)
      have f1' := n' _ (.tail _ (.head _))
      obtain ⟨a0, y0, b0, z0⟩ := hY 0 (by simp)
      obtain ⟨a1, y1, b1, z1⟩ := hY 1 (by simp)
      obtain ⟨a2, y2, b2, z2⟩ := hY 2 (by simp)
      rw [if_pos ⟨rfl, rfl⟩] at z0
      rw [if_neg (by decide), if_neg (by decide)] at z1
      rw [if_neg (by decide), if_pos ⟨rfl, rfl⟩] at z2
      obtain ⟨u0, v0, w0, z0⟩ := z0
      obtain ⟨u1, l1, ⟨w1, z1⟩, nl, Y1, c1, z1', z1''⟩ := z1
      obtain ⟨u2, w2, z2⟩ := z2
      have gD' : hD.get? D = some (LO [.ref a0, .ref a1, .ref a2] nD) := by rw [gD, ← y0, ← y1, ← y2]; rfl
      obtain ⟨nm, q6⟩ := q6.up (stTrans hGs up')
      have rd : Rd G' (.ref Tt) (rowD C.uses (V.fl j) j (V.ms j)) := by
        refine rd_row ?_ (inG _ _ gT (none_sub sD fT))
        unfold pairsD
        rw [hu, if_pos rfl]
        refine ⟨_, .list (inG _ _ (kT _ _ gD') fD) rfl rfl (ReadsAll.cons (.tuple (inG _ _ (kT _ _ z0) b0) rfl rfl (ReadsAll.cons (.str _ _) (ReadsAll.cons (.int _ _) .nil))) (ReadsAll.cons (.tuple (inG _ _ (kT _ _ z1) b1) rfl rfl (ReadsAll.cons (.str _ _) (ReadsAll.cons (StrsAt.reads (h := G') ⟨Y1, c1, inG _ _ (kT _ _ z1') nl, z1''⟩) .nil))) (ReadsAll.cons (.tuple (inG _ _ (kT _ _ z2) b2) rfl rfl (ReadsAll.cons (.str _ _) (ReadsAll.cons (.list q6 rfl rfl (ReadsAll.cons (.int _ _) .nil)) .nil))) .nil)))⟩
      have hW' : ∀ i ∈ (V.news C).take k, Rd G' (.ref (W i)) (rowD C.uses (V.fl i) i (V.ms i)) := fun i hi => (hW i hi).up up'
      obtain ⟨z1, z2⟩ := heard_fin (h₀ := h₀) (G := G') (Gs := Gs) (due := due) (m' := fun q => if q = Str.ofString "heard" then some (.ref heard) else if q = Str.ofString "due" then some (.ref due) else if q = Str.ofString "pen" then some (.ref C.pen) else if q = Str.ofString "pairs" then some (Value.ref p) else if q = Str.ofString "number" then some (.int ((j : Int) + 1) t2) else if q = Str.ofString "word" then some (.str (Str.ofString "fetch") t1) else m₁ q) (e := e) hk I' f1' gI' nI (stTrans hGs up') hW' rd rfl rfl rfl
      simp only [List.cons_append, List.nil_append] at N'
      clear Fa Na F₀ N₀ upz hIm
      have tlI : ∀ q ∈ TL', q.1 ≠ I := I'.all gI'
      walk_at "my steps"
      exact ItEnd.intro (by assumption) (by assumption) z1 z2
end PartLawI
section PartLawJ
/-- the heap that the rest of the turn leans on: what stood, and what the due loop made -/
theorem due_heap {G Gs Gd : Heap} {C : LC} {V : LV} {Z : Nat → Addr} (k1 : G.StaysIn Gs) (k2 : Gs.StaysIn Gd) (gb : BookIn G C.n V.bt V.va V.vm) (hZ : ∀ j, j < C.n → stale V.vfl V.fl C.uses V.vm V.ms j = true → Gs.get? (Z j) = none)
    (bk : BookIn Gd C.n (upto C.n (stale V.vfl V.fl C.uses V.vm V.ms) Z V.bt) (upto C.n (stale V.vfl V.fl C.uses V.vm V.ms) V.tp V.va) (upto C.n (stale V.vfl V.fl C.uses V.vm V.ms) V.ms V.vm)) :
    ∃ H : Heap, G.StaysIn H ∧ (newer Gs Gd).StaysIn H ∧ H.StaysIn Gd ∧ (∀ a o, Gs.get? a = some o → G.get? a = none → H.get? a = none) ∧
      BookIn H C.n (upto C.n (stale V.vfl V.fl C.uses V.vm V.ms) Z V.bt) (fun i => if stale V.vfl V.fl C.uses V.vm V.ms i = true then V.tp i else V.va i) (fun i => if stale V.vfl V.fl C.uses V.vm V.ms i = true then V.ms i else V.vm i) := by
  refine ⟨only Gd fun a => (Gs.get? a).isNone || (G.get? a).isSome, fun a o e => only_of (k2 _ _ (k1 _ _ e)) (by rw [e]; simp), fun a o e => ?_, only_sub, fun a o e1 e2 => ?_, fun j hj => ?_⟩
  · have q : (Gs.get? a).isNone = true := by
      by_cases c : (Gs.get? a).isNone = true
      · exact c
      · unfold newer at e; rw [only_get, if_neg (by simpa using c)] at e; cases e
    exact only_of (only_sub _ _ e) (by rw [q]; rfl)
  · rw [only_get, if_neg]
    rw [e1, e2]; simp
  · obtain ⟨t, nt, z⟩ := bk j hj
    by_cases s : stale V.vfl V.fl C.uses V.vm V.ms j = true
    · have q : ∀ {α : Type} {f g : Nat → α}, upto C.n (stale V.vfl V.fl C.uses V.vm V.ms) f g j = f j := by intro α f g; unfold upto; rw [if_pos ⟨hj, s⟩]
      (try dsimp only)
      rw [q, q, q] at z
      rw [q, if_pos s, if_pos s]
      exact ⟨t, nt, only_of z (by rw [hZ j hj s]; rfl)⟩
    · have q : ∀ {α : Type} {f g : Nat → α}, upto C.n (stale V.vfl V.fl C.uses V.vm V.ms) f g j = g j := by intro α f g; unfold upto; rw [if_neg (fun x => s x.2)]
      (try dsimp only)
      rw [q, q, q] at z
      rw [q, if_neg s, if_neg s]
      obtain ⟨t', nt', z'⟩ := gb j hj
      exact ⟨t, nt, only_of z (by rw [z']; simp)⟩
noncomputable def heardPart : List Stmt := way3Body.drop 2
/-- the state once the news are heard -/
def LV.heard (V : LV) (C : LC) (bt : Nat → Addr) (vt : Nat → Tok) : LV :=
  { V with bt := bt, va := fun i => if stale V.vfl V.fl C.uses V.vm V.ms i = true then V.tp i else V.va i, vm := fun i => if stale V.vfl V.fl C.uses V.vm V.ms i = true then V.ms i else V.vm i, vfl := fun i => if stale V.vfl V.fl C.uses V.vm V.ms i = true then V.fl i else V.vfl i, vt := vt }
local macro_rules | `(tactic| walk_at "exec For Tuple") => `(tactic| (k_here; (with_reducible show wpAny _ _ (exec (Stmt.For (Expr.Tuple _ _ _) _ _ [] _) _) _ _ _); (rename Fr _ _ _ _ => lF'); k_dflt (refine For_invTF lF' ?_ (by intro _; rfl))))
theorem Im.noL {h₀ G h : Heap} {L : Addr} {m : Str → Option Value} {TL news : List (Addr × Obj)} (I : Im h₀ G TL) (F : Fr h₀ L h m) (N : News h₀ L h news) (sub : ∀ p ∈ TL, p ∈ news) : G.get? L = none := by
  cases q : G.get? L with
  | none => rfl
  | some o' =>
    rcases I.has _ _ q with z | z
    · rw [fr_noL F] at z; cases z
    · exact absurd rfl (N _ (sub _ z)).2.1
theorem reads_rows {h : Heap} {W : Nat → Addr} {d : Nat → PyData} : ∀ l : List Nat, (∀ j ∈ l, Rd h (.ref (W j)) (d j)) → ∃ as, ReadsAll h (l.map fun j => .ref (W j)) (l.map d) as
  | [], _ => ⟨_, .nil⟩
  | j :: r, q => by
    obtain ⟨as, z⟩ := q j (.head _)
    obtain ⟨bs, zz⟩ := reads_rows r fun i hi => q i (.tail _ hi)
    exact ⟨_, .cons z zz⟩
theorem rowD_shaped {uses : Bool} {f : Nat → List Str} {ms : Nat → Int} {l : List Nat} (hf : ∀ j ∈ l, IsFl (f j)) : PySem.SeqAt.shaped (.list (l.map fun j => rowD uses (f j) j (ms j))) = true := shaped_list fun j hj => by
  have a := strs_can (hf j hj)
  have b := strs_depth (f j)
  unfold rowD pairsD
  split
  · refine ⟨by simp [PyData.canLay0, PyData.canLayAll0, a]; decide +kernel, ?_⟩
    simp only [PyData.depth, PyData.depthAll]
    generalize PyData.depthAll _ = d at b
    rcases Nat.le_one_iff_eq_zero_or_eq_one.mp b with rfl | rfl <;> decide
  · refine ⟨by simp [PyData.canLay0, PyData.canLayAll0, a]; decide +kernel, ?_⟩
    simp only [PyData.depth, PyData.depthAll]
    generalize PyData.depthAll _ = d at b
    rcases Nat.le_one_iff_eq_zero_or_eq_one.mp b with rfl | rfl <;> decide
local macro_rules | `(tactic| walk_at "compareOp NotEq ref ref") => `(tactic| (k_here; k_dflt (refine same_ne (by with_reducible assumption) (by with_reducible assumption) (by with_reducible assumption) (by walk_at "my units") ?_)))
theorem heard_part {w : World} {mg mb : Str → Option Value} {dep un : Nat} {fr : Option (List Env)} {gd : Option (List Code)} {h₀ h G : Heap} {gens : Array GenState} {drawn : Drawn} {os : OsState} {tk : Nat} {L fa due : Addr} {cd : Value} {C : LC} {V : LV} {io o ok of om : Obj} {np e b ed : Nat} {spot : Int} {t1 : Tok} {bt Y : Nat → Addr} {m : Str → Option Value} {TL : List (Addr × Obj)} {I : Addr} {Q : Flow → Shared → Prop}
    (X : (heapK w.params).In h₀) (T : TopRead VG LG mg mb h₀) (hA : dep < 800) (hU : un < 100) (K : LK C L) (hIm : Im h₀ G TL) (gI : G.get? I = none) (gdu : G.get? due = none) (off : Off G (C.adr L)) (hG : GF C (V.heard C bt V.vt) G) (hgg : FlagsIn G C.n V.va V.vfl) (ob : BoxD C.ll V.nx V.top o) (df : DictO w C.n (fun j => .ref (V.va j)) of) (dm : DictO w C.n (fun j => .int (V.vm j) (V.vt j)) om) (dk : DictO w C.n (fun j => .ref (bt j)) ok)
    (hR : ∀ j ∈ V.news C, Rd G (.ref (Y j)) (rowD C.uses (V.fl j) j (V.ms j))) (s0 : 0 ≤ spot) (s1 : spot ≤ b) (p0 : 0 ≤ V.top) (p1 : V.top ≤ b) (hb : b ≤ 500) (m1 : m (Str.ofString "due") = some (.ref due)) (m2 : m (Str.ofString "pen") = some (.ref C.pen)) (F : Fr h₀ L h m)
    (N : News h₀ L h ((due, LO ((V.news C).map fun j => .ref (Y j)) ed) :: (I, io) :: (C.pen, LO [.ref C.c, .int spot t1, .int C.sm C.t2] np) :: (C.bd, o) :: (C.ll, LO ((List.range C.n).map fun j => .ref (V.l j)) e) :: (C.bk, ok) :: (C.fd, of) :: (C.md, om) :: (L + 1 + 1 + 1 + 1, C.o4) :: (L + 1 + 1 + 1, C.o3) :: (L + 1 + 1, C.o2) :: (L + 1, C.o1) :: TL)) (ne : ∀ q ∈ C.led L V spot t1 np e o ok of om, q.1 ≠ I) (nd : ∀ q ∈ (I, io) :: C.led L V spot t1 np e o ok of om, q.1 ≠ due)
    (k : ∀ h' tk' m' nw', Fr h₀ L h' m' → News h₀ L h' ((I, io) :: nw') → (∀ q ∈ nw', q.1 ≠ I) → LS w h₀ L C (b + 1) nw' → m' (Str.ofString "pen") = some (.ref C.pen) → Q .next ⟨h', gens, drawn, tk', os⟩) :
    wpAny (model PG w) (AR dep fr gd un) (execs heardPart (lawEnv L fa cd)) Q (fun _ _ => False) ⟨h, gens, drawn, tk, os⟩ := by
  obtain ⟨ap, d1, d2, d3, d4, lf, lm, lb, n1, n5, hi, hl⟩ := id K
  refine Apart.elim10 ap ?_
  intro a12 a13 a14 a15 a16 a17 a18 a19 a1a a23 a24 a25 a26 a27 a28 a29 a2a a34 a35 a36 a37 a38 a39 a3a a45 a46 a47 a48 a49 a4a a56 a57 a58 a59 a5a a67 a68 a69 a6a a78 a79 a7a a89 a8a a9a
  have nI := allNeA_of ne (C.led L V spot t1 np e o ok of om) (fun p hp => hp)
  refine AllNeA.elim10 nI ?_
  intro b1 b2 b3 b4 b5 b6 b7 b8 b9 ba
  have nD := allNeA_of nd ((I, io) :: C.led L V spot t1 np e o ok of om) (fun p hp => hp)
  refine AllNeA.elim11 nD ?_
  intro u0 u1 u2 u3 u4 u5 u6 u7 u8 u9 u10
  have n100 : C.n ≤ 100 := Nat.le_trans n5 (by decide)
  have f1 : G.get? C.pen = none := off _ (.head _)
  have f2 : G.get? C.bd = none := off _ (by k_mem)
  have f3 : G.get? C.ll = none := off _ (by k_mem)
  have f4 : G.get? C.bk = none := off _ (by k_mem)
  have f5 : G.get? C.fd = none := off _ (by k_mem)
  have f6 : G.get? C.md = none := off _ (by k_mem)
  have f7 : G.get? (L + 1 + 1 + 1 + 1) = none := off _ (by k_mem)
  have f8 : G.get? (L + 1 + 1 + 1) = none := off _ (by k_mem)
  have f9 : G.get? (L + 1 + 1) = none := off _ (by k_mem)
  have fa' : G.get? (L + 1) = none := off _ (by k_mem)
  obtain ⟨gc, gx, gv, gu, -, -, -, gb⟩ := id hG
  have gl : LettersIn G C.n V.l V.tp V.ms := hG.l
  have gf : FlagsIn G C.n V.tp V.fl := hG.f
  have em : m = fun y => if y = Str.ofString "due" then some (.ref due) else if y = Str.ofString "pen" then some (.ref C.pen) else m y := funext fun y => by
    by_cases q : y = Str.ofString "due"
    · subst q; rw [if_pos rfl, m1]
    · rw [if_neg q]
      by_cases q : y = Str.ofString "pen"
      · subst q; rw [if_pos rfl, m2]
      · rw [if_neg q]
  rw [em] at F
  clear em ne nd
  show wpAny _ _ (execs (_ :: _) (envOfC _ { kind := _, names := _, isGenerator := _, isCoroutine := _, more := _ } _ _ _)) _ _ _
  walk_at "my steps"
  rename Fr _ _ _ _ => Fa
  rename News _ _ _ _ => Na
  rename_i heard ha lh h3
  refine ltElim12 lh ?_
  intro v0 v1 v2 v3 v4 v5 v6 v7 v8 v9 v10 v11 ct
  clear lh
  have fh : G.get? heard = none := hIm.off (m := fun _ => none) Na (.head _) ct
  clear ct
  refine ex2k6 (hIm.redo (S := [(C.fd, of), (C.md, om), (heard, LO [] 0), (due, LO ((V.news C).map fun j => .ref (Y j)) ed), (I, io), (C.pen, LO [.ref C.c, .int spot t1, .int C.sm C.t2] np), (C.bk, ok), (L + 1 + 1 + 1 + 1, C.o4), (L + 1 + 1 + 1, C.o3), (L + 1 + 1, C.o2), (L + 1, C.o1)]) (X := [(C.bd, o), (C.ll, LO ((List.range C.n).map fun j => .ref (V.l j)) e)]) Fa (by
      dsimp only [List.cons_append, List.nil_append]
      walk_at "my each"
      all_goals first | exact Na _ (by k_mem) | exact fun p hp => Na p (by (repeat (first | with_reducible exact hp | with_reducible apply List.mem_cons_of_mem)))) (by
      dsimp only [Off, List.map_cons, List.map_nil]
      walk_at "my each"
      all_goals assumption) (by
      walk_at "my each"
      all_goals first | exact NeA.ne (by with_reducible assumption) | exact NeA.en (by with_reducible assumption))) ?_
  intro Gk TLk Ik Nk offk upk xk zz7
  clear zz7
  refine gets2 xk ?_
  intro x1 x2
  k_dflt (refine flagNews_spec (Bs.up ⟨X, T⟩ Ik.sub) (Ik.stays Fa Nk (fun _ hp => List.mem_append_right _ hp)) (by omega) (by omega) (gv.up upk) ⟨upk _ _ gx, o, x1, ob⟩ ⟨⟨e, x2⟩, gl.up upk⟩ (gf.up upk) (gu.up upk) (hgg.up upk) (Na.get (by k_mem)) (offk _ (.head _)) df lf (Na.get (by k_mem)) (offk _ (.tail _ (.head _))) dm lm a56.ne n100 ?_)
  intro h4 tk4 D₂ of' om' vt' Y₂ e₂ kp y1 df' y2 dm' nD₂ gD₂ hF₂
  have GkL := Ik.noL Fa Nk fun _ hp => List.mem_append_right _ hp
  have GL := hIm.noL Fa Na (by walk_at "my sub")
  have hGr : (grow Gk h3 h4).get? heard = none := grow_none (offk _ (.tail _ (.tail _ (.head _)))) (Na.get (.head _))
  have hGL : (grow Gk h3 h4).get? L = none := let ⟨o, _, _, z, _⟩ := Fa.ns; grow_none GkL z
  have DL : D₂ ≠ L := fun q => by
    obtain ⟨o, _, _, z, _⟩ := Fa.ns
    rw [← q] at z
    rw [show h3.get? D₂ = none from nD₂] at z; cases z
  have D0 : h₀.get? D₂ = none := none_sub Fa.keep nD₂
  have Dh : D₂ ≠ heard := fun q => by
    have z := Na.get (a := heard) (.head _)
    rw [← q, show h3.get? D₂ = none from nD₂] at z; cases z
  have Z := newsUpd2 Fa Na kp (by k_upd) (by k_upd) y1 y2 a56.ne
  refine and2 (Z) ?_
  intro Fb Nb
  have r1 := (Na _ (.tail _ (.head _))).2.2
  have r2 := (Na _ (.tail _ (.tail _ (.head _)))).2.2
  have r3 := (Na _ (.tail _ (.tail _ (.tail _ (.head _))))).2.2
  have r4 := (Na _ (.tail _ (.tail _ (.tail _ (.tail _ (.head _)))))).2.2
  have r5 := (Na _ (.tail _ (.tail _ (.tail _ (.tail _ (.tail _ (.head _))))))).2.2
  have r6 := (Na _ (.tail _ (.tail _ (.tail _ (.tail _ (.tail _ (.tail _ (.head _)))))))).2.2
  have r7 := (Na _ (.tail _ (.tail _ (.tail _ (.tail _ (.tail _ (.tail _ (.tail _ (.head _))))))))).2.2
  have r8 := (Na _ (.tail _ (.tail _ (.tail _ (.tail _ (.tail _ (.tail _ (.tail _ (.tail _ (.head _)))))))))).2.2
  have r9 := (Na _ (.tail _ (.tail _ (.tail _ (.tail _ (.tail _ (.tail _ (.tail _ (.tail _ (.tail _ (.head _))))))))))).2.2
  have ra := (Na _ (.tail _ (.tail _ (.tail _ (.tail _ (.tail _ (.tail _ (.tail _ (.tail _ (.tail _ (.tail _ (.head _)))))))))))).2.2
  have rb := (Na _ (.tail _ (.tail _ (.tail _ (.tail _ (.tail _ (.tail _ (.tail _ (.tail _ (.tail _ (.tail _ (.tail _ (.head _))))))))))))).2.2
  have rc := (Na _ (.tail _ (.tail _ (.tail _ (.tail _ (.tail _ (.tail _ (.tail _ (.tail _ (.tail _ (.tail _ (.tail _ (.tail _ (.head _)))))))))))))).2.2
  refine ex2k6 (hIm.redo (S := [(heard, LO [] 0)]) (X := [(D₂, LO ((V.news C).map fun j => .ref (Y₂ j)) e₂), (due, LO ((V.news C).map fun j => .ref (Y j)) ed), (I, io), (C.pen, LO [.ref C.c, .int spot t1, .int C.sm C.t2] np), (C.bd, o), (C.ll, LO ((List.range C.n).map fun j => .ref (V.l j)) e), (C.bk, ok), (C.fd, of'), (C.md, om'), (L + 1 + 1 + 1 + 1, C.o4), (L + 1 + 1 + 1, C.o3), (L + 1 + 1, C.o2), (L + 1, C.o1)]) Fb (by
      dsimp only [List.cons_append, List.nil_append]
      walk_at "my each"
      all_goals first | exact Nb _ (by k_mem) | exact ⟨gD₂, DL, D0⟩ | exact fun p hp => Nb p (by (repeat (first | with_reducible exact hp | with_reducible apply List.mem_cons_of_mem)))) (by
      dsimp only [Off, List.map_cons, List.map_nil]
      walk_at "my each"
      all_goals exact fh) (by
      walk_at "my each"
      all_goals first | exact NeA.en (by with_reducible assumption) | exact Dh)) ?_
  intro G2 TL2 I2 N2 off2 up2 x2' H2
  have hF3 : ∀ j, j < C.n → stale V.vfl V.fl C.uses V.vm V.ms j = true → FetchAt G2 (Y₂ j) j (V.fl j) (V.ms j) C.uses := fun j hj sj => (hF₂ j hj sj).up (H2 _ grow_sub (by
    simp only [List.map_cons, List.map_nil]
    intro a ha
    rw [List.mem_singleton] at ha
    subst ha; exact hGr) hGL)
  refine gets13 x2' ?_
  intro xD xd xI x1 x2 x3 x4 x5 x6 x7 x8 x9 xa
  clear hF₂ H2 hGr hGL kp Fa Na Nk nD₂ y1 y2 GkL offk upk Ik
  have hidx : ∀ i, i < (V.news C).length → ∃ j, (V.news C)[i]? = some j ∧ j < C.n ∧ stale V.vfl V.fl C.uses V.vm V.ms j = true := fun i hi => by
    have := List.mem_filter.mp (List.getElem_mem hi)
    exact ⟨_, List.getElem?_eq_getElem hi, List.mem_range.mp this.1, this.2⟩
  have hch : ∀ i, ∃ q : Nat × Addr × Tok × Tok, i < (V.news C).length → (V.news C)[i]? = some q.1 ∧ q.1 < C.n ∧ TupAt G2 (Y₂ q.1) [.str (Str.ofString "fetch") q.2.2.1, .int ((q.1 : Int) + 1) q.2.2.2, .ref q.2.1] ∧ PairsAt G2 q.2.1 (V.fl q.1) ((q.1 : Int) + 1) (V.ms q.1) C.uses := fun i => by
    by_cases hi : i < (V.news C).length
    · obtain ⟨j, e1, e2, e3⟩ := hidx i hi
      obtain ⟨p, t1, t2, z1, z2⟩ := hF3 j e2 e3
      exact ⟨(j, p, t1, t2), fun _ => ⟨e1, e2, z1, z2⟩⟩
    · exact ⟨(0, 0, 0, 0), fun z => absurd z hi⟩
  obtain ⟨f, hch⟩ := Classical.axiomOfChoice hch
  have esz : ((V.news C).map fun j => Value.ref (Y₂ j)).toArray.size = (V.news C).length := by simp
  refine iter_trip (l := D₂) (items := ((V.news C).map fun j => Value.ref (Y₂ j)).toArray) (ta := fun i => Y₂ (f i).1) (v1 := fun i => .str (Str.ofString "fetch") (f i).2.2.1) (v2 := fun i => .int (((f i).1 : Int) + 1) (f i).2.2.2) (v3 := fun i => .ref (f i).2.1) (HJ h₀ C V due heard G2) rfl ⟨_, gD₂, rfl, e₂, rfl⟩ DL (.inr ⟨LO ((V.news C).map fun j => .ref (Y₂ j)) e₂, fun i m nw J => ?src⟩) rfl rfl rfl rfl ?hP ?hT Fb N2 ?hj ?turn ?done
  case src =>
    obtain ⟨G3, TL3, e3, W, rfl, I3, -, k3, -⟩ := J
    exact .tail _ ((I3.has _ _ (k3 _ _ xD)).resolve_left (by rw [D0]; exact nofun))
  case hP =>
    intro i v e
    rw [List.getElem?_toArray, List.getElem?_map] at e
    obtain ⟨j, e1, rfl⟩ := Option.map_eq_some_iff.mp e
    have := (hch i (List.getElem?_eq_some_iff.mp e1).1).1
    rw [e1] at this
    rw [Option.some.inj this]
  case hT =>
    rintro i m nw h hi ⟨G3, TL3, e3, W, rfl, I3, -, k3, -⟩ F N
    rw [esz] at hi
    exact (hch i hi).2.2.1.up (stTrans k3 (I3.stays F N fun p hp => .tail _ hp))
  case hj => exact ⟨G2, TL2, 0, fun _ => 0, rfl, I2, off2 _ (.head _), fun _ _ e => e, fun j hj => absurd hj (by simp), rfl, rfl, rfl⟩
  case turn =>
    intro i m₁ nw h I₁ io₁ s₁ hi J ne F N es
    subst es
    rw [esz] at hi
    obtain ⟨z1, z2, z3, z4⟩ := hch i hi
    exact heard_turn X T hA hU n5 z1 z4 (gf.is z2) J ne F N
  case done =>
    intro m₁ nw h5 tk5 J F' N'
    have F5 : Fr h₀ L h5 m₁ := F'
    have N5 : News h₀ L h5 nw := N'
    clear F' N' Fb Nb N2 hch hF3 hidx gD₂
    rw [esz] at J
    refine HJ.elim J ?_
    clear J
    intro G3 TL3 e3 W zq4 I3 off3 k3 hW n1' n2' n3'
    subst zq4
    rw [List.take_length] at hW
    rw [List.take_length] at N5
    have hG3 : G3.StaysIn h5 := I3.stays F5 N5 fun p hp => .tail _ hp
    have hfl : ∀ j ∈ V.news C, IsFl (V.fl j) := fun j hj => gf.is (List.mem_range.mp (List.mem_filter.mp hj).1)
    obtain ⟨as1, ra1⟩ := reads_rows (h := h5) (d := fun j => rowD C.uses (V.fl j) j (V.ms j)) (V.news C) fun j hj => (hW j hj).up hG3
    obtain ⟨as2, ra2⟩ := reads_rows (h := h5) (d := fun j => rowD C.uses (V.fl j) j (V.ms j)) (V.news C) fun j hj => (hR j hj).up (stTrans up2 (stTrans k3 hG3))
    have R1 : Reads h5 (.ref heard) (.list ((V.news C).map fun j => rowD C.uses (V.fl j) j (V.ms j))) _ := .list (N5.get (.head _)) rfl rfl ra1
    have R2 : Reads h5 (.ref due) (.list ((V.news C).map fun j => rowD C.uses (V.fl j) j (V.ms j))) _ := .list (hG3 _ _ (k3 _ _ xd)) rfl rfl ra2
    have R3 := rowD_shaped (uses := C.uses) (ms := V.ms) hfl
    have em : m₁ = fun y => if y = Str.ofString "heard" then some (.ref heard) else if y = Str.ofString "due" then some (.ref due) else if y = Str.ofString "pen" then some (.ref C.pen) else m₁ y := funext fun y => by
      by_cases q : y = Str.ofString "heard"
      · subst q; rw [if_pos rfl, n1']
      · rw [if_neg q]
        by_cases q : y = Str.ofString "due"
        · subst q; rw [if_pos rfl, n2']
        · rw [if_neg q]
          by_cases q : y = Str.ofString "pen"
          · subst q; rw [if_pos rfl, n3']
          · rw [if_neg q]
    rw [em] at F5
    clear em
    walk_at "my steps"
    have in3 : ∀ a o', G2.get? a = some o' → h₀.get? a = none → News h₀ L h5 [(a, o')] := fun a o' e n p hp => by
      rw [List.mem_singleton] at hp
      subst hp
      exact N5 _ (.tail _ ((I3.has a o' (k3 _ _ e)).resolve_left (by rw [n]; exact nofun)))
    refine ex2k5 (Im.make (S := (I, io) :: (C.pen, LO [.ref C.c, .int spot t1, .int C.sm C.t2] np) :: (C.bd, o) :: (C.ll, LO ((List.range C.n).map fun j => .ref (V.l j)) e) :: (C.bk, ok) :: (C.fd, of') :: (C.md, om') :: (L + 1 + 1 + 1 + 1, C.o4) :: (L + 1 + 1 + 1, C.o3) :: (L + 1 + 1, C.o2) :: [(L + 1, C.o1)]) F5 (by
      walk_at "my each"
      all_goals exact in3 _ _ (by assumption) (by assumption) _ (.head _))) ?_
    intro G6 TL6 I6 N6 n6 zz5 up6
    clear zz5
    have hG6 := hG.up (up6 G (stTrans up2 (stTrans k3 hG3)) (by
      walk_at "my each"
      all_goals assumption) GL)
    have gI6 := n6 _ (.head _)
    refine k _ _ _ _ F5 N6 (fun q hq => ?_) ⟨V.heard C bt vt', G6, TL6, o, ok, of', om', np, e, spot, t1, rfl, I6, fun a ha => ?_, ⟨hG6.c, hG6.x, hG6.v, hG6.u, hG6.l, hG6.f, hG6.g, hG6.b⟩, ⟨ob, dk, df', dm'⟩, by omega, by omega, p0, by show V.top ≤ _; omega⟩ rfl
    · rcases List.mem_append.mp (show q ∈ C.led L V spot t1 np e o ok of' om' ++ TL6 from hq) with hq | hq
      · exact (by walk_at "my each"; all_goals exact NeA.en (by with_reducible assumption) : ∀ q ∈ _, q.1 ≠ I) _ hq
      · exact I6.all gI6 q hq
    · obtain ⟨p, hp, rfl⟩ := List.mem_map.mp (show a ∈ (C.led L V spot t1 np e o ok of' om').map (·.1) from ha)
      exact n6 p (.tail _ hp)
theorem way3 {w : World} {mg mb : Str → Option Value} {dep un : Nat} {fr : Option (List Env)} {gd : Option (List Code)} {h₀ h G : Heap} {gens : Array GenState} {drawn : Drawn} {os : OsState} {tk : Nat} {L fa : Addr} {cd : Value} {C : LC} {V : LV} {io o ok of om : Obj} {np e b j : Nat} {spot : Int} {t1 tu tw : Tok} {mm : Str → Option Value} {TL : List (Addr × Obj)} {I : Addr} {Q : Flow → Shared → Prop}
    (X : (heapK w.params).In h₀) (T : TopRead VG LG mg mb h₀) (hA : dep < 800) (hU : un < 100) (K : LK C L) (hIm : Im h₀ G TL) (off : Off G (C.adr L)) (hG : GF C V G) (hO : LO' w C V o ok of om) (s0 : 0 ≤ spot) (s1 : spot ≤ b) (p0 : 0 ≤ V.top) (p1 : V.top ≤ b) (hb : b ≤ 500) (hj : j < C.n)
    (F : Fr h₀ L h (fun y => if y = Str.ofString "letter" then some (.ref (V.l j)) else if y = Str.ofString "uid" then some (.int ((j : Int) + 1) tu) else if y = Str.ofString "way" then some (.int 3 tw) else if y = Str.ofString "pen" then some (.ref C.pen) else mm y))
    (N : News h₀ L h ((I, io) :: (C.led L V spot t1 np e o ok of om ++ TL))) (ne : ∀ q ∈ C.led L V spot t1 np e o ok of om ++ TL, q.1 ≠ I)
    (k : ∀ h' tk' m' nw', Fr h₀ L h' m' → News h₀ L h' ((I, io) :: nw') → (∀ q ∈ nw', q.1 ≠ I) → LS w h₀ L C (b + 1) nw' → m' (Str.ofString "pen") = some (.ref C.pen) → Q .next ⟨h', gens, drawn, tk', os⟩) :
    wpAny (model PG w) (AR dep fr gd un) (exec ifStmt (lawEnv L fa cd)) Q (fun _ _ => False) ⟨h, gens, drawn, tk, os⟩ := by
  obtain ⟨ap, d1, d2, d3, d4, lf, lm, lb, n1, n5, hi, hl⟩ := id K
  refine Apart.elim10 ap ?_
  intro a12 a13 a14 a15 a16 a17 a18 a19 a1a a23 a24 a25 a26 a27 a28 a29 a2a a34 a35 a36 a37 a38 a39 a3a a45 a46 a47 a48 a49 a4a a56 a57 a58 a59 a5a a67 a68 a69 a6a a78 a79 a7a a89 a8a a9a
  have nI := allNeA_of ne (C.led L V spot t1 np e o ok of om) (fun p hp => List.mem_append_left TL hp)
  refine AllNeA.elim10 nI ?_
  intro b1 b2 b3 b4 b5 b6 b7 b8 b9 ba
  have n100 : C.n ≤ 100 := Nat.le_trans n5 (by decide)
  have gI : G.get? I = none := hIm.off (m := fun _ => none) N (.head _) fun p hp => ne p (List.mem_append_right _ hp)
  have f1 : G.get? C.pen = none := off _ (.head _)
  have f2 : G.get? C.bd = none := off _ (by k_mem)
  have f3 : G.get? C.ll = none := off _ (by k_mem)
  have f4 : G.get? C.bk = none := off _ (by k_mem)
  have f5 : G.get? C.fd = none := off _ (by k_mem)
  have f6 : G.get? C.md = none := off _ (by k_mem)
  have f7 : G.get? (L + 1 + 1 + 1 + 1) = none := off _ (by k_mem)
  have f8 : G.get? (L + 1 + 1 + 1) = none := off _ (by k_mem)
  have f9 : G.get? (L + 1 + 1) = none := off _ (by k_mem)
  have fa' : G.get? (L + 1) = none := off _ (by k_mem)
  obtain ⟨gc, gx, gv, gu, gl, gf, gg, gb⟩ := id hG
  show wpAny _ _ (exec (Stmt.If _ _ _ _) (envOfC _ { kind := _, names := _, isGenerator := _, isCoroutine := _, more := _ } _ _ _)) _ _ _
  have N₀ : News h₀ L h ((I, io) :: (C.pen, LO [.ref C.c, .int spot t1, .int C.sm C.t2] np) :: (C.bd, o) :: (C.ll, LO ((List.range C.n).map fun j => .ref (V.l j)) e) :: (C.bk, ok) :: (C.fd, of) :: (C.md, om) :: (L + 1 + 1 + 1 + 1, C.o4) :: (L + 1 + 1 + 1, C.o3) :: (L + 1 + 1, C.o2) :: (L + 1, C.o1) :: TL) := N
  clear N
  have hdk := hO.k
  walk_at "my steps"
  rename Fr _ _ _ _ => Fa
  rename News _ _ _ _ => Na
  rename_i due ha ld hb' D₁ hc tkc T₁ kp lD
  clear kp
  refine ltElim11 ld ?_
  intro u0 u1 u2 u3 u4 u5 u6 u7 u8 u9 u10 ct'
  refine ltElim12 lD ?_
  intro v0 v1 v2 v3 v4 v5 v6 v7 v8 v9 v10 v11 qt'
  clear ld lD
  have f0 : G.get? due = none := hIm.off (m := fun _ => none) Na (.tail _ (.head _)) ct'
  refine ex2k6 (hIm.redo (S := [(due, LO [] 0), (C.bk, ok), (L + 1 + 1 + 1, C.o3), (L + 1 + 1, C.o2), (L + 1, C.o1)]) (X := [(D₁, LO ((List.range C.n).map fun (i : Nat) => .int ((i : Int) + 1) (T₁ i)) 2), (I, io), (C.pen, LO [.ref C.c, .int spot t1, .int C.sm C.t2] np), (C.bd, o), (C.ll, LO ((List.range C.n).map fun j => .ref (V.l j)) e), (C.fd, of), (C.md, om), (L + 1 + 1 + 1 + 1, C.o4)]) Fa (by
      dsimp only [List.cons_append, List.nil_append]
      walk_at "my each"
      all_goals first | exact Na _ (by k_mem) | exact fun p hp => Na p (by (repeat (first | with_reducible exact hp | with_reducible apply List.mem_cons_of_mem)))) (by
      dsimp only [Off, List.map_cons, List.map_nil]
      walk_at "my each"
      all_goals assumption) (by
      walk_at "my each"
      all_goals first | exact NeA.ne (by with_reducible assumption) | exact NeA.en (by with_reducible assumption))) ?_
  intro Gs TLs Is Ns offs ups xs zz7
  clear zz7
  refine gets8 xs ?_
  intro x1 x2 x3 x4 x5 x6 x7 x8
  have sx : BoxAt Gs C.x C.bd C.ll V.nx V.top := ⟨ups _ _ gx, o, x4, hO.b⟩
  have sl : LettersAt Gs C.ll C.n V.l V.tp V.ms := ⟨⟨e, x5⟩, gl.up ups⟩
  have sf := gf.up ups
  have sg := gg.up ups
  have hD₁ : h₀.get? D₁ = none := (Na _ (.head _)).2.2
  have hDL : D₁ ≠ L := (Na _ (.head _)).2.1
  have r2 := (Na _ (.tail _ (.tail _ (.head _)))).2.2
  have r3 := (Na _ (.tail _ (.tail _ (.tail _ (.head _))))).2.2
  have r4 := (Na _ (.tail _ (.tail _ (.tail _ (.tail _ (.head _)))))).2.2
  have r5 := (Na _ (.tail _ (.tail _ (.tail _ (.tail _ (.tail _ (.head _))))))).2.2
  have r7 := (Na _ (.tail _ (.tail _ (.tail _ (.tail _ (.tail _ (.tail _ (.tail _ (.head _))))))))).2.2
  have r8 := (Na _ (.tail _ (.tail _ (.tail _ (.tail _ (.tail _ (.tail _ (.tail _ (.tail _ (.head _)))))))))).2.2
  have r9 := (Na _ (.tail _ (.tail _ (.tail _ (.tail _ (.tail _ (.tail _ (.tail _ (.tail _ (.tail _ (.head _))))))))))).2.2
  refine iter_items (l := D₁) (items := ((List.range C.n).map fun (i : Nat) => Value.int ((i : Int) + 1) (T₁ i)).toArray) (DJ w h₀ L C V due Gs) rfl (.inl ⟨_, Na.get (.head _), rfl, 2, rfl⟩) hDL (.inr ⟨LO ((List.range C.n).map fun (i : Nat) => .int ((i : Int) + 1) (T₁ i)) 2, fun i m nw J => ?src⟩) Fa Ns ?hj ?turn ?done
  case src =>
    obtain ⟨Gd, TLd, okd, ed, Y, Z, rfl, Id, -, hGd, -⟩ := J
    rcases Id.has _ _ (hGd _ _ x1) with q | q
    · rw [hD₁] at q; cases q
    · exact List.mem_append_right [_, _, _, _, _] q
  case hj => exact ⟨Gs, TLs, ok, 0, fun _ => 0, fun _ => 0, rfl, Is, offs, fun _ _ e => e, by rw [upto_zero]; exact hdk, by rw [upto_zero, upto_zero, upto_zero]; exact gb.up ups, fun j hj => absurd hj (Nat.not_lt_zero _), rfl, rfl⟩
  case turn =>
    intro i v m₁ nw h tk I₁ io₁ hv J ne F N
    obtain ⟨hi, rfl⟩ := uids_item hv
    exact due_turn X T hA hU n5 lb ⟨⟨u4, u8, u9, u10, trivial⟩, ⟨a48, a49, a4a, trivial⟩, ⟨a89, a8a, trivial⟩, ⟨a9a, trivial⟩, trivial, trivial⟩ d1 d2 d3 sx sl sf sg hi J ne F N
  case done =>
    intro m₁ nw h1 tkd J Fd' Nd'
    have Fd : Fr h₀ L h1 m₁ := Fd'
    have Nd : News h₀ L h1 nw := Nd'
    clear Fd' Nd'
    rw [show ((List.range C.n).map fun (i : Nat) => Value.int ((i : Int) + 1) (T₁ i)).toArray.size = C.n by simp] at J
    refine DJ.elim J ?_
    clear J
    intro Gd TLd okd ed Y Z zq6 Id offd hGd dkd bkd hY m1 m2
    subst zq6
    obtain ⟨H, kGH, knH, kHd, nH, bkH⟩ := due_heap ups hGd gb (fun j hj sj => (hY j hj sj).2) bkd
    have inT : ∀ a o', Gs.get? a = some o' → h₀.get? a = none → (a, o') ∈ TLd := fun a o' e n => (Id.has a o' (hGd _ _ e)).resolve_left (by rw [n]; exact nofun)
    have GdL : Gd.get? L = none := by
      cases q : Gd.get? L with
      | none => rfl
      | some o' =>
        rcases Id.has _ _ q with z | z
        · rw [fr_noL Fd] at z; cases z
        · exact absurd rfl (Nd _ (List.mem_append_right [_, _, _, _, _] z)).2.1
    have noH : ∀ a, Gd.get? a = none → H.get? a = none := fun a q => none_sub kHd q
    refine ex2k5 (Im.make (S := (due, LO ((V.news C).map fun j => .ref (Y j)) ed) :: (I, io) :: (C.pen, LO [.ref C.c, .int spot t1, .int C.sm C.t2] np) :: (C.bd, o) :: (C.ll, LO ((List.range C.n).map fun j => .ref (V.l j)) e) :: (C.bk, okd) :: (C.fd, of) :: (C.md, om) :: (L + 1 + 1 + 1 + 1, C.o4) :: (L + 1 + 1 + 1, C.o3) :: (L + 1 + 1, C.o2) :: [(L + 1, C.o1)]) Fd (by
      walk_at "my each"
      all_goals first
        | exact Nd _ (by k_mem)
        | exact Nd _ (List.mem_append_right [_, _, _, _, _] (inT _ _ (by assumption) (by assumption))))) ?_
    intro G1 TL1 I1 N1 n1' gL1 up1
    have kH1 := up1 H (stTrans kHd (Id.stays Fd Nd fun p hp => List.mem_append_right [_, _, _, _, _] hp)) (by
      exact fa_cons (noH _ (offd _ (.head _))) (fa_cons (nH _ _ x2 gI) (fa_cons (nH _ _ x3 f1) (fa_cons (nH _ _ x4 f2) (fa_cons (nH _ _ x5 f3) (fa_cons (noH _ (offd _ (by k_mem))) (fa_cons (nH _ _ x6 f5) (fa_cons (nH _ _ x7 f6) (fa_cons (nH _ _ x8 f7) (fa_cons (noH _ (offd _ (by k_mem))) (fa_cons (noH _ (offd _ (by k_mem))) (fa_cons (noH _ (offd _ (by k_mem))) (fa_nil))))))))))))) (noH _ GdL)
    have N2 : News h₀ L h1 ((due, LO ((V.news C).map fun j => .ref (Y j)) ed) :: (I, io) :: (C.pen, LO [.ref C.c, .int spot t1, .int C.sm C.t2] np) :: (C.bd, o) :: (C.ll, LO ((List.range C.n).map fun j => .ref (V.l j)) e) :: (C.bk, okd) :: (C.fd, of) :: (C.md, om) :: (L + 1 + 1 + 1 + 1, C.o4) :: (L + 1 + 1 + 1, C.o3) :: (L + 1 + 1, C.o2) :: (L + 1, C.o1) :: TL1) := N1
    have n0 := n1' _ (.head _)
    have nI := n1' _ (.tail _ (.head _))
    have dk' : DictO w C.n (fun j => .ref (upto C.n (stale V.vfl V.fl C.uses V.vm V.ms) Z V.bt j)) okd := dkd
    have g1 := stTrans kGH kH1
    refine heard_part X T hA hU K I1 nI n0 (fun a ha => ?_) (G := G1) (bt := upto C.n (stale V.vfl V.fl C.uses V.vm V.ms) Z V.bt) (Y := Y) ⟨gc.at fun o q => g1 _ _ q, g1 _ _ gx, gv.up g1, gu.up g1, gl.up g1, gf.up g1, fun i hi => ?_, bkH.up kH1⟩ (gg.up g1) hO.b hO.f hO.m dk' (fun j hj => ?_) s0 s1 p0 p1 hb m1 m2 Fd N2 (fun q hq => ?_) (fun q hq => ?_) ?_
    · obtain ⟨p, hp, rfl⟩ := List.mem_map.mp (show a ∈ (C.led L V spot t1 np e o okd of om).map (·.1) from ha)
      exact n1' p (.tail _ (.tail _ hp))
    · by_cases s : stale V.vfl V.fl C.uses V.vm V.ms i = true
      · dsimp only [LV.heard]
        rw [if_pos s, if_pos s]; exact gf.up g1 i hi
      · dsimp only [LV.heard]
        rw [if_neg s, if_neg s]; exact gg.up g1 i hi
    · have z := List.mem_filter.mp hj
      exact (hY j (List.mem_range.mp z.1) z.2).1.up (stTrans knH kH1)
    · exact (by walk_at "my each"; all_goals exact NeA.en (by with_reducible assumption) : ∀ q ∈ _, q.1 ≠ I) _ hq
    · exact (by walk_at "my each"; all_goals exact NeA.en (by with_reducible assumption) : ∀ q ∈ _, q.1 ≠ due) _ hq
    · intro h' tk' m' nw' F' N' ne' S' p'
      walk_at "my steps"
      exact k _ _ _ _ F' N' ne' S' p'
end PartLawJ
section PartLawK
theorem dict_lenO {w : World} {A : Around} {E : Value → Shared → Prop} {s : Shared} {d : Addr} {o : Obj} {n : Nat} {f : Nat → Value} {Q : Value → Shared → Prop} (hm : s.heap.get? d = some o) (hd' : DictO w n f o) (lo : (d == sysModules) = false) (hn : n ≤ 100)
    (h : Q (.int n (s.toks + 1)) { s with toks := s.toks + 1 + 1 }) : wpAny (model PG w) A (call (.builtin "len") [.ref d]) Q E s := by
  refine call_len_dict (knd := intKind PG w) lo (Heap.dictOf_iff.mpr ⟨o, hm, hd'⟩) (by rw [kv_length]; omega) ?_
  rw [kv_length]; exact h
local macro_rules | `(tactic| walk_at "call builtin:len") => `(tactic| (k_here; k_dflt (refine dict_lenO (News.get (by with_reducible assumption) (by k_mem)) (by with_reducible assumption) (by with_reducible assumption) (by with_reducible assumption) ?_)))
local macro_rules | `(tactic| walk_at "my stepsI") => `(tactic| repeat' (first | (k_unfold; (try dsimp only)) | ((fail_if_success (with_reducible show wpAny _ _ (exec (Stmt.If _ _ _ _) _) _ _ _)); (fail_if_success (with_reducible show wpAny _ _ (getMethod (Value.ref _) _ _) _ _ _)); (fail_if_success (with_reducible show wpAny _ _ (call (Value.ref 264) _) _ _ _)); (walk_at "my go"); first | (k_end; wrow_close) | walk1 | (dsimp only; walk1) | (leave1; try dsimp only))))
theorem LS.mono {w : World} {h₀ : Heap} {L : Addr} {C : LC} {b b' : Nat} {nw : List (Addr × Obj)} (h : b ≤ b') : LS w h₀ L C b nw → LS w h₀ L C b' nw := by
  rintro ⟨V, G, TL, o, ok, of, om, np, e, spot, t1, rfl, hIm, off, hG, hO, s0, s1, p0, p1⟩
  exact ⟨V, G, TL, o, ok, of, om, np, e, spot, t1, rfl, hIm, off, hG, hO, s0, by omega, p0, by omega⟩
/-- between the deeds -/
def LJ2 (w : World) (h₀ : Heap) (L : Addr) (C : LC) (i : Nat) (m : Str → Option Value) (nw : List (Addr × Obj)) : Prop := m (Str.ofString "pen") = some (.ref C.pen) ∧ LS w h₀ L C (10 + 4 * i) nw
theorem deed_turn {w : World} {mg mb : Str → Option Value} {dep un : Nat} {fr : Option (List Env)} {gd : Option (List Code)} {h₀ h : Heap} {gens : Array GenState} {drawn : Drawn} {os : OsState} {tk0 : Nat} {L fa : Addr} {cd : Value} {C : LC} {i : Nat} {io : Obj} {m₁ : Str → Option Value} {nw : List (Addr × Obj)} {I : Addr} {ti : Tok} {Q : Flow → Shared → Prop}
    (X : (heapK w.params).In h₀) (T : TopRead VG LG mg mb h₀) (hA : dep < 800) (hU : un < 100) (K : LK C L) (hi9 : i < 9) (J : LJ2 w h₀ L C i m₁ nw) (ne : ∀ p ∈ nw, p.1 ≠ I) (F : Fr h₀ L h (fun y => if y = Str.ofString "lap" then some (.int (i : Int) ti) else m₁ y)) (N : News h₀ L h ((I, io) :: nw)) :
    wpAny (model PG w) (AR dep fr gd un) (execs deedBody (lawEnv L fa cd)) (ItPost h₀ L (LJ2 w h₀ L C (i + 1)) I io ⟨h, gens, drawn, tk0, os⟩ Q) (fun _ _ => False) ⟨h, gens, drawn, tk0, os⟩ := by
  have mp := J.1
  refine LS.elim J.2 ?_
  clear J
  intro V G TL o ok of om np e spot t1 zq hIm off hG hO s0 s1 p0 p1
  subst zq
  obtain ⟨ap, d1, d2, d3, d4, lf, lm, lb, n1, n5, hi, hl⟩ := id K
  refine Apart.elim10 ap ?_
  intro a12 a13 a14 a15 a16 a17 a18 a19 a1a a23 a24 a25 a26 a27 a28 a29 a2a a34 a35 a36 a37 a38 a39 a3a a45 a46 a47 a48 a49 a4a a56 a57 a58 a59 a5a a67 a68 a69 a6a a78 a79 a7a a89 a8a a9a
  have nI := allNeA_of ne (C.led L V spot t1 np e o ok of om) (fun p hp => List.mem_append_left TL hp)
  refine AllNeA.elim10 nI ?_
  intro b1 b2 b3 b4 b5 b6 b7 b8 b9 ba
  have n100 : C.n ≤ 100 := Nat.le_trans n5 (by decide)
  have gI : G.get? I = none := hIm.off (m := fun _ => none) N (.head _) fun p hp => ne p (List.mem_append_right _ hp)
  have f1 : G.get? C.pen = none := off _ (.head _)
  have f2 : G.get? C.bd = none := off _ (by k_mem)
  have f3 : G.get? C.ll = none := off _ (by k_mem)
  have f4 : G.get? C.bk = none := off _ (by k_mem)
  have f5 : G.get? C.fd = none := off _ (by k_mem)
  have f6 : G.get? C.md = none := off _ (by k_mem)
  have f7 : G.get? (L + 1 + 1 + 1 + 1) = none := off _ (by k_mem)
  have f8 : G.get? (L + 1 + 1 + 1) = none := off _ (by k_mem)
  have f9 : G.get? (L + 1 + 1) = none := off _ (by k_mem)
  have fa' : G.get? (L + 1) = none := off _ (by k_mem)
  obtain ⟨gc, gx, gv, gu, gl, gf, gg, gb⟩ := id hG
  have N₀ : News h₀ L h ((I, io) :: (C.pen, LO [.ref C.c, .int spot t1, .int C.sm C.t2] np) :: (C.bd, o) :: (C.ll, LO ((List.range C.n).map fun j => .ref (V.l j)) e) :: (C.bk, ok) :: (C.fd, of) :: (C.md, om) :: (L + 1 + 1 + 1 + 1, C.o4) :: (L + 1 + 1 + 1, C.o3) :: (L + 1 + 1, C.o2) :: (L + 1, C.o1) :: TL) := N
  clear N
  have hdk := hO.k
  have em : (fun y => if y = Str.ofString "lap" then some (Value.int (i : Int) ti) else m₁ y) = fun y => if y = Str.ofString "pen" then some (.ref C.pen) else if y = Str.ofString "lap" then some (Value.int (i : Int) ti) else m₁ y := funext fun y => by
    by_cases q : y = Str.ofString "pen"
    · subst q; rw [if_pos rfl, if_neg (by decide), mp]
    · rw [if_neg q]
  rw [em] at F
  clear em
  show wpAny _ _ (execs (_ :: _) (envOfC _ { kind := _, names := _, isGenerator := _, isCoroutine := _, more := _ } _ _ _)) _ _ _
  walk_at "my stepsI"
  rename Fr _ _ _ _ => Fa
  rename News _ _ _ _ => Na
  rename_i h6 tk6 r trr t6 n6 pr0 pr1 k6 e6 h7 tk7 u tru t7 n7 pu0 pu1 k7 e7 D8 h8 l8 h9 ha hb'
  clear k6 e6 k7 e7 l8
  obtain ⟨j, rfl⟩ : ∃ j : Nat, u = j := ⟨u.toNat, by omega⟩
  have hj : j < C.n := by omega
  rw [show (1 : Int) + (j : Int) = (j : Int) + 1 from by omega] at Fa
  have Nb : News h₀ L hb' ((I, io) :: (C.led L V (spot + 1 + 1) t7 n7 e o ok of om ++ TL)) := fun p hp => Na p (.tail _ hp)
  clear Na
  have hH : LH w C V hb' := LH.mk' K hIm Fa Nb (fun p hp => .tail _ hp) hG hO
  k_dflt (refine box_meth_letter X Fa hH.x ?_)
  walk_at "my stepsI"
  k_dflt (refine letter_specN (Bs.at X T Fa) (by omega) hH.x hH.l n100 hj ?_)
  intro hc tkc kc
  have Fc := Fr.keeps Fa kc
  have Nc := News.grown Nb kc
  clear Fa Nb hH kc
  walk_at "my stepsI"
  rename Fr _ _ _ _ => Fd
  rename News _ _ _ _ => Nd
  have el : ∀ (a b c : Option Value) (z : Str → Option Value), (fun y => if y = Str.ofString "letter" then a else if y = Str.ofString "way" then b else if y = Str.ofString "uid" then c else z y) = fun y => if y = Str.ofString "letter" then a else if y = Str.ofString "uid" then c else if y = Str.ofString "way" then b else z y := fun a b c z => funext fun y => by
    by_cases q : y = Str.ofString "way"
    · subst q; rw [if_neg (by decide), if_pos rfl, if_neg (by decide), if_neg (by decide), if_pos rfl]
    · rw [if_neg q, if_neg q]
  rw [el] at Fd
  clear el
  have ne' : ∀ q ∈ C.led L V (spot + 1 + 1) t7 n7 e o ok of om ++ TL, q.1 ≠ I := fun q hq => by
    rcases List.mem_append.mp hq with hq | hq
    · exact (by walk_at "my each"; all_goals exact NeA.en (by with_reducible assumption) : ∀ q ∈ _, q.1 ≠ I) _ hq
    · exact hIm.all gI q hq
  have rest : ∀ h' tk' m' nw', Fr h₀ L h' m' → News h₀ L h' ((I, io) :: nw') → (∀ q ∈ nw', q.1 ≠ I) → LS w h₀ L C (10 + 4 * i + 2 + 1) nw' → m' (Str.ofString "pen") = some (.ref C.pen) →
      wpAny (model PG w) (AR dep fr gd un) (execs tailBody (lawEnv L fa cd)) (ItPost h₀ L (LJ2 w h₀ L C (i + 1)) I io ⟨h, gens, drawn, tk0, os⟩ Q) (fun _ _ => False) ⟨h', gens, drawn, tk', os⟩ := fun h' tk' m' nw' F' N' ne' S' p' =>
    deed_tail (s₁ := ⟨h, gens, drawn, tk0, os⟩) X T hA hU K S' ne' F' N' fun h2 tk2 m2 F2 N2 pm => show ItEnd h₀ L (LJ2 w h₀ L C (i + 1)) I io ⟨h, gens, drawn, tk0, os⟩ ⟨h2, gens, drawn, tk2, os⟩ from ItEnd.intro (s₁ := ⟨h, gens, drawn, tk0, os⟩) F2 N2 ne' ⟨pm.trans p', S'.mono (by omega)⟩
  have hr : r = 0 ∨ r = 1 ∨ r = 2 ∨ r = 3 := by omega
  rcases hr with rfl | rfl | rfl | rfl
  · exact way0 (b := 10 + 4 * i + 2) X T hA hU K hIm off hG hO (by omega) (by omega) p0 (by omega) (by omega) hj Fd Nd ne' rest
  · exact way1 (b := 10 + 4 * i + 2) X T hA hU K hIm off hG hO (by omega) (by omega) p0 (by omega) (by omega) hj Fd Nd ne' rest
  · exact way2 (b := 10 + 4 * i + 2) X T hA hU K hIm off hG hO (by omega) (by omega) p0 (by omega) (by omega) hj Fd Nd ne' rest
  · exact way3 (b := 10 + 4 * i + 2) X T hA hU K hIm off hG hO (by omega) (by omega) p0 (by omega) (by omega) hj Fd Nd ne' rest
end PartLawK
section PartLawL
noncomputable def loopsBody : List Stmt := lawStmts.drop 3
local macro_rules | `(tactic| walk_at "my stepsF") => `(tactic| repeat' (first | (k_unfold; (try dsimp only)) | ((fail_if_success (with_reducible show wpAny _ _ (execs (Stmt.For _ _ _ _ _ :: _) _) _ _ _)); (walk_at "my go"); first | (k_end; wrow_close) | walk1 | (dsimp only; walk1) | (leave1; try dsimp only))))
theorem newsNeA {h₀ h : Heap} {L D : Addr} {news : List (Addr × Obj)} (N : News h₀ L h news) (hf : h.get? D = none) (S : List (Addr × Obj)) (sub : ∀ p ∈ S, p ∈ news) : AllNeA D (S.map (·.1)) := allNeA_of (fun p hp q => by
  have := (N p hp).1
  rw [q, hf] at this; cases this) S sub
theorem law_loops {w : World} {mg mb : Str → Option Value} {dep un : Nat} {fr : Option (List Env)} {gd : Option (List Code)} {h₀ h : Heap} {gens : Array GenState} {drawn : Drawn} {os : OsState} {tk : Nat} {L fa c pen x bd ll bk : Addr} {cd : Value} {vs : List Value} {ns : List Int} {sm : Int} {t1 t2 : Tok} {np : Nat} {o ok co o1 o2 o3 o4 : Obj} {mm : Str → Option Value} {f₀ : Nat → Value} {Q : Flow → Shared → Prop}
    (X : (heapK w.params).In h₀) (T : TopRead VG LG mg mb h₀) (hA : dep < 800) (hU : un < 100) (hi : IntsAre vs ns) (hlen : ns.length ≤ 63) (hco : ∀ H : Heap, H.get? c = some co → H.IsList c vs.toArray) (ap : Apart [pen, bd, ll, bk, L + 1 + 1 + 1 + 1, L + 1 + 1 + 1, L + 1 + 1, L + 1]) (ax : AllNeA x [pen, bd, ll, bk, L + 1 + 1 + 1 + 1, L + 1 + 1 + 1, L + 1 + 1, L + 1]) (ac : AllNeA c [pen, bd, ll, bk, L + 1 + 1 + 1 + 1, L + 1 + 1 + 1, L + 1 + 1, L + 1])
    (d1 : o1.data = .cell (some (.ref x))) (d2 : o2.data = .cell (some (.ref bk))) (d3 : o3.data = .cell none) (d4 : o4.data = .cell none) (hb : BoxD ll 1 1 o) (hk : DictO w 0 f₀ ok) (lb : (bk == sysModules) = false)
    (F : Fr h₀ L h (fun y => if y = Str.ofString "pen" then some (Value.ref pen) else mm y)) (N : News h₀ L h ((x, instObj 277 bd) :: (c, co) :: [(pen, LO [.ref c, .int 0 t1, .int sm t2] np), (bd, o), (ll, LO [] 0), (bk, ok), (L + 1 + 1 + 1 + 1, o4), (L + 1 + 1 + 1, o3), (L + 1 + 1, o2), (L + 1, o1)]))
    (k : ∀ h' tk m, Fr h₀ L h' m → Q (.ret (.bool true)) ⟨h', gens, drawn, tk, os⟩) :
    wpAny (model PG w) (AR dep fr gd un) (execs loopsBody (lawEnv L fa cd)) Q (fun _ _ => False) ⟨h, gens, drawn, tk, os⟩ := by
  have ap₀ := ap
  refine Apart.elim8 ap ?_
  intro a12 a13 a14 a15 a16 a17 a18 a23 a24 a25 a26 a27 a28 a34 a35 a36 a37 a38 a45 a46 a47 a48 a56 a57 a58 a67 a68 a78
  refine AllNeA.list8 ax ?_
  intro x1 x2 x3 x4 x5 x6 x7 x8
  refine AllNeA.list8 ac ?_
  intro c1 c2 c3 c4 c5 c6 c7 c8
  refine ex2k6 (Im.nil.redo (X := [(x, instObj 277 bd), (c, co)]) (S := [(pen, LO [.ref c, .int 0 t1, .int sm t2] np), (bd, o), (ll, LO [] 0), (bk, ok), (L + 1 + 1 + 1 + 1, o4), (L + 1 + 1 + 1, o3), (L + 1 + 1, o2), (L + 1, o1)]) F (fun p hp => N p (by simpa using hp)) (by
    simp only [List.map_cons, List.map_nil]
    intro a ha
    obtain ⟨p, hp, rfl⟩ := List.mem_map.mp (show a ∈ ([(pen, LO [.ref c, .int 0 t1, .int sm t2] np), (bd, o), (ll, LO [] 0), (bk, ok), (L + 1 + 1 + 1 + 1, o4), (L + 1 + 1 + 1, o3), (L + 1 + 1, o2), (L + 1, o1)]).map (·.1) from ha)
    exact (N p (.tail _ (.tail _ hp))).2.2) (by
      walk_at "my each"
      all_goals exact NeA.ne (by with_reducible assumption))) ?_
  intro G TL hIm N₁ off zz5 xs zz7
  clear zz5 zz7
  have gx := xs _ (.head _)
  have gc := hco G (xs _ (.tail _ (.head _)))
  have N₀ : News h₀ L h ((pen, LO [.ref c, .int 0 t1, .int sm t2] np) :: (bd, o) :: (ll, LO [] 0) :: (bk, ok) :: (L + 1 + 1 + 1 + 1, o4) :: (L + 1 + 1 + 1, o3) :: (L + 1 + 1, o2) :: (L + 1, o1) :: TL) := N₁
  clear xs N N₁ x1 x2 x3 x4 x5 x6 x7 x8 c1 c2 c3 c4 c5 c6 c7 c8
  simp only [Off] at off
  have off₀ : Off G [pen, bd, ll, bk, L + 1 + 1 + 1 + 1, L + 1 + 1 + 1, L + 1 + 1, L + 1] := off
  have f1 := off _ (.head _)
  have f2 := off _ (.tail _ (.head _))
  have f3 := off _ (.tail _ (.tail _ (.head _)))
  have f4 := off _ (.tail _ (.tail _ (.tail _ (.head _))))
  have f5 := off _ (.tail _ (.tail _ (.tail _ (.tail _ (.head _)))))
  have f6 := off _ (.tail _ (.tail _ (.tail _ (.tail _ (.tail _ (.head _))))))
  have f7 := off _ (.tail _ (.tail _ (.tail _ (.tail _ (.tail _ (.tail _ (.head _)))))))
  have f8 := off _ (.tail _ (.tail _ (.tail _ (.tail _ (.tail _ (.tail _ (.tail _ (.head _))))))))
  dsimp only at f1 f2 f3 f4 f5 f6 f7 f8
  clear off
  show wpAny _ _ (execs (_ :: _) (envOfC _ { kind := _, names := _, isGenerator := _, isCoroutine := _, more := _ } _ _ _)) _ _ _
  walk_at "my steps"
  rename Fr _ _ _ _ => Fa
  rename News _ _ _ _ => Na
  rename_i ha tka r tr t1' np' pr0 pr1 ka ea D hc' tkc u1 u2 u3 kc fD rD
  clear ka ea kc fD
  obtain ⟨n, hn, hn1, hn5⟩ : ∃ n : Nat, 1 + r = (n : Int) ∧ 1 ≤ n ∧ n ≤ 5 := ⟨(1 + r).toNat, by omega, by omega, by omega⟩
  rw [hn] at rD
  refine iter_range (n := n) (LJ1 w h₀ L c pen x bd ll bk sm t2 o1 o2 o3 o4 vs mm) rfl rD (by omega) Fa Na ?hj ?turn ?done
  case hj => exact ⟨_, G, TL, o, ok, 0, np', 0 + 1, t1', fun _ => 0, fun _ => 0, fun _ => 0, fun _ => 0, fun _ => [], over_eq (fun y _ => rfl), rfl, hIm, off₀, gc, gx, by omega, by omega, hb, fun j hj => absurd hj (Nat.not_lt_zero _), fun j hj => absurd hj (Nat.not_lt_zero _), hk, fun j hj => absurd hj (Nat.not_lt_zero _)⟩
  case turn =>
    intro i t m₁ nw h tk I io hin J ne F N
    exact add_turn X T hA hU hi hlen (by omega) ap₀ d1 d2 J ne F N
  case done =>
    intro m₁ nw h1 tk1 J F' N'
    clear Fa Na hIm gc gx off₀ f1 f2 f3 f4 f5 f6 f7 f8 rD hb hk
    refine LJ1.elim J ?_
    clear J
    intro u G TL o ok e np spot t1 l tp bt ms fl zq14 zq15 hIm off gc gx s0 s1 hb hL hF hk hB
    subst zq14
    subst zq15
    have Fb : Fr h₀ L h1 _ := F'
    have Nb : News h₀ L h1 ((pen, LO [.ref c, .int spot t1, .int sm t2] np) :: (bd, o) :: (ll, LO ((List.range n).map fun j => .ref (l j)) e) :: (bk, ok) :: (L + 1 + 1 + 1 + 1, o4) :: (L + 1 + 1 + 1, o3) :: (L + 1 + 1, o2) :: (L + 1, o1) :: TL) := N'
    clear F' N'
    have off₀ := off
    simp only [Off] at off
    have f1 := off _ (.head _)
    have f2 := off _ (.tail _ (.head _))
    have f3 := off _ (.tail _ (.tail _ (.head _)))
    have f4 := off _ (.tail _ (.tail _ (.tail _ (.head _))))
    have f5 := off _ (.tail _ (.tail _ (.tail _ (.tail _ (.head _)))))
    have f6 := off _ (.tail _ (.tail _ (.tail _ (.tail _ (.tail _ (.head _))))))
    have f7 := off _ (.tail _ (.tail _ (.tail _ (.tail _ (.tail _ (.tail _ (.head _)))))))
    have f8 := off _ (.tail _ (.tail _ (.tail _ (.tail _ (.tail _ (.tail _ (.tail _ (.head _))))))))
    clear off
    walk_at "my stepsF"
    rename Fr _ _ _ _ => Fc
    rename News _ _ _ _ => Nc
    rename_i hA2 tkA r2 tr2 t12 n2 p20 p21 k2 e2 hB2 o3n dc3
    clear k2 e2
    have hS := hIm.stays Fc Nc (by walk_at "my sub")
    k_dflt (refine view_new (Bs.at X T Fc) (by omega) ⟨hS _ _ gx, o, Nc.get (by k_mem), hb⟩ ⟨⟨e, Nc.get (by k_mem)⟩, hL.up hS⟩ (by omega) ?_)
    intro h3 tk3 vw dx ul fd md od oul of om vt k3 hx3 hV hUl df dm lf lm nes
    have Nd := newsMany Fc Nc k3 [(vw, instObj 98 dx), (dx, od), (ul, oul), (fd, of), (md, om)] hx3
    have Fd := Fr.keeps Fc k3
    simp only [List.cons_append, List.nil_append] at Nd
    refine and7 (nes) ?_
    intro i1 i2 i3 i4 i5 i6 i7
    have w0 := newsNeA Nc (hx3 _ (.head _)).1 [(pen, LO [.ref c, .int (spot + 1) t12, .int sm t2] n2), (bd, o), (ll, LO ((List.range n).map fun j => .ref (l j)) e), (bk, ok), (L + 1 + 1 + 1 + 1, o4), (L + 1 + 1 + 1, o3n), (L + 1 + 1, o2), (L + 1, o1)] (fun p hp => List.mem_append_left TL hp)
    refine AllNeA.elim8 w0 ?_
    intro w00 w01 w02 w03 w04 w05 w06 w07
    have w1 := newsNeA Nc (hx3 _ (.tail _ (.head _))).1 [(pen, LO [.ref c, .int (spot + 1) t12, .int sm t2] n2), (bd, o), (ll, LO ((List.range n).map fun j => .ref (l j)) e), (bk, ok), (L + 1 + 1 + 1 + 1, o4), (L + 1 + 1 + 1, o3n), (L + 1 + 1, o2), (L + 1, o1)] (fun p hp => List.mem_append_left TL hp)
    refine AllNeA.elim8 w1 ?_
    intro w10 w11 w12 w13 w14 w15 w16 w17
    have w2 := newsNeA Nc (hx3 _ (.tail _ (.tail _ (.head _)))).1 [(pen, LO [.ref c, .int (spot + 1) t12, .int sm t2] n2), (bd, o), (ll, LO ((List.range n).map fun j => .ref (l j)) e), (bk, ok), (L + 1 + 1 + 1 + 1, o4), (L + 1 + 1 + 1, o3n), (L + 1 + 1, o2), (L + 1, o1)] (fun p hp => List.mem_append_left TL hp)
    refine AllNeA.elim8 w2 ?_
    intro w20 w21 w22 w23 w24 w25 w26 w27
    have w3 := newsNeA Nc (hx3 _ (.tail _ (.tail _ (.tail _ (.head _))))).1 [(pen, LO [.ref c, .int (spot + 1) t12, .int sm t2] n2), (bd, o), (ll, LO ((List.range n).map fun j => .ref (l j)) e), (bk, ok), (L + 1 + 1 + 1 + 1, o4), (L + 1 + 1 + 1, o3n), (L + 1 + 1, o2), (L + 1, o1)] (fun p hp => List.mem_append_left TL hp)
    refine AllNeA.elim8 w3 ?_
    intro w30 w31 w32 w33 w34 w35 w36 w37
    have w4 := newsNeA Nc (hx3 _ (.tail _ (.tail _ (.tail _ (.tail _ (.head _)))))).1 [(pen, LO [.ref c, .int (spot + 1) t12, .int sm t2] n2), (bd, o), (ll, LO ((List.range n).map fun j => .ref (l j)) e), (bk, ok), (L + 1 + 1 + 1 + 1, o4), (L + 1 + 1 + 1, o3n), (L + 1 + 1, o2), (L + 1, o1)] (fun p hp => List.mem_append_left TL hp)
    refine AllNeA.elim8 w4 ?_
    intro w40 w41 w42 w43 w44 w45 w46 w47
    have j1 : NeA vw fd := i1
    have j2 : NeA vw md := i2
    have j3 : NeA dx fd := i3
    have j4 : NeA dx md := i4
    have j5 : NeA ul fd := i5
    have j6 : NeA ul md := i6
    have j7 : NeA fd md := i7
    have g4 : G.get? fd = none := none_sub hS (hx3 _ (.tail _ (.tail _ (.tail _ (.head _))))).1
    have g5 : G.get? md = none := none_sub hS (hx3 _ (.tail _ (.tail _ (.tail _ (.tail _ (.head _)))))).1
    clear Fc Nc hx3 k3 hS i1 i2 i3 i4 i5 i6 i7
    walk_at "my stepsF"
    rename Fr _ _ _ _ => Fe
    rename News _ _ _ _ => Ne
    rename_i he o4n dc4
    refine ex2k6 (hIm.redo (X := [(vw, instObj 98 dx), (dx, od), (ul, oul)]) (S := [(pen, LO [.ref c, .int (spot + 1) t12, .int sm t2] n2), (bd, o), (ll, LO ((List.range n).map fun j => .ref (l j)) e), (bk, ok), (fd, of), (md, om), (L + 1 + 1 + 1 + 1, o4n), (L + 1 + 1 + 1, o3n), (L + 1 + 1, o2), (L + 1, o1)]) Fe (by
      dsimp only [List.cons_append, List.nil_append]
      walk_at "my each"
      all_goals first | exact Ne _ (by k_mem) | exact fun p hp => Ne p (by (repeat (first | with_reducible exact hp | with_reducible apply List.mem_cons_of_mem)))) (by
      dsimp only [Off, List.map_cons, List.map_nil]
      walk_at "my each"
      all_goals assumption) (by
      walk_at "my each"
      all_goals first | exact NeA.ne (by with_reducible assumption) | exact NeA.en (by with_reducible assumption))) ?_
    intro G2 TL2 I2 N2 off2 up2 xs2 zz7
    clear zz7
    have gc2 : G2.IsList c vs.toArray := gc.at fun o q => up2 _ _ q
    have K : LK ⟨c, pen, x, bd, ll, bk, vw, ul, fd, md, sm, t2, (r2 == 1), vs, ns, o1, o2, o3n, o4n, n⟩ L := ⟨by
      show Apart [pen, bd, ll, bk, fd, md, L + 1 + 1 + 1 + 1, L + 1 + 1 + 1, L + 1 + 1, L + 1]
      repeat' (first | exact trivial | refine Apart.cons ?_ ?_ | refine AllNeA.cons ?_ ?_)
      all_goals first | with_reducible assumption | exact NeA.en (by with_reducible assumption), d1, d2, dc3, dc4, lf, lm, lb, hn1, hn5, hi, hlen⟩
    have hG2 : GF ⟨c, pen, x, bd, ll, bk, vw, ul, fd, md, sm, t2, (r2 == 1), vs, ns, o1, o2, o3n, o4n, n⟩ ⟨(n : Int) + 1, (n : Int) + 1, l, tp, bt, tp, ms, ms, vt, fl, fl⟩ G2 := ⟨gc2, up2 _ _ gx, hV G2 (xs2 _ (.head _)) (xs2 _ (.tail _ (.head _))), hUl G2 (xs2 _ (.tail _ (.tail _ (.head _)))), hL.up up2, hF.up up2, hF.up up2, hB.up up2⟩
    have hO2 : LO' w ⟨c, pen, x, bd, ll, bk, vw, ul, fd, md, sm, t2, (r2 == 1), vs, ns, o1, o2, o3n, o4n, n⟩ ⟨(n : Int) + 1, (n : Int) + 1, l, tp, bt, tp, ms, ms, vt, fl, fl⟩ o ok of om := ⟨hb, hk, df, dm⟩
    have off3 : Off G2 [pen, bd, ll, bk, fd, md, L + 1 + 1 + 1 + 1, L + 1 + 1 + 1, L + 1 + 1, L + 1] := off2
    have p1 : G2.get? pen = none := off3 _ (.head _)
    simp only [List.cons_append, List.nil_append] at N2
    clear hIm Ne gc gx hV hUl df dm hk hb hL hF hB up2 xs2 off2 off₀ f1 f2 f3 f4 f5 f6 f7 f8 g4 g5
    walk_at "my steps"
    rename Fr _ _ _ _ => Ff
    rename News _ _ _ _ => Nf
    rename_i h5 tk5 r3 tr3 t13 n3 p30 p31 k3 e3 D3 h6 tk6 u4 u5 u6 k6 f6 rD3
    clear k3 e3 k6 f6
    obtain ⟨nn, hnn, hn9⟩ : ∃ nn : Nat, r3 = (nn : Int) ∧ nn ≤ 8 := ⟨r3.toNat, by omega, by omega⟩
    rw [hnn] at rD3
    refine iter_range (n := nn) (LJ2 w h₀ L ⟨c, pen, x, bd, ll, bk, vw, ul, fd, md, sm, t2, (r2 == 1), vs, ns, o1, o2, o3n, o4n, n⟩) rfl rD3 (by omega) Ff Nf ?hj2 ?turn2 ?done2
    case hj2 => exact ⟨rfl, ⟨(n : Int) + 1, (n : Int) + 1, l, tp, bt, tp, ms, ms, vt, fl, fl⟩, G2, TL2, o, ok, of, om, n3, e, spot + 1 + 1, t13, rfl, I2, off3, hG2, hO2, by omega, by omega, by show (0 : Int) ≤ (n : Int) + 1; omega, by show (n : Int) + 1 ≤ _; omega⟩
    case turn2 =>
      intro i t m₁ nw h tk I io hin J ne F N
      exact deed_turn X T hA hU K (by omega) J ne F N
    case done2 =>
      intro m₁ nw h7 tk7 J F' N'
      have Fg : Fr h₀ L h7 m₁ := F'
      have Ng : News h₀ L h7 nw := N'
      clear Ff Nf F' N'
      walk_at "my steps"
      exact k _ _ _ Fg
end PartLawL
section PartLaw
local macro_rules | `(tactic| walk_at "my deep") => `(tactic| first | walk_at "my and" | exact And.left (And.right (And.right (And.right (And.right (by with_reducible assumption))))) | exact And.left (And.right (And.right (And.right (And.right (And.right (by with_reducible assumption)))))) | exact And.left (And.right (And.right (And.right (And.right (And.right (And.right (by with_reducible assumption))))))) | exact And.left (And.right (And.right (And.right (And.right (And.right (And.right (And.right (by with_reducible assumption)))))))) | exact And.left (And.right (And.right (And.right (And.right (And.right (And.right (And.right (And.right (by with_reducible assumption))))))))) | exact And.left (And.right (And.right (And.right (And.right (And.right (And.right (And.right (And.right (And.right (by with_reducible assumption)))))))))) | exact And.left (And.right (And.right (And.right (And.right (And.right (And.right (And.right (And.right (And.right (And.right (by with_reducible assumption))))))))))) | exact And.left (And.right (And.right (And.right (And.right (And.right (And.right (And.right (And.right (And.right (And.right (And.right (by with_reducible assumption)))))))))))) | exact And.left (And.right (And.right (And.right (And.right (And.right (And.right (And.right (And.right (And.right (And.right (And.right (And.right (by with_reducible assumption))))))))))))) | exact And.left (And.right (And.right (And.right (And.right (And.right (And.right (And.right (And.right (And.right (And.right (And.right (And.right (And.right (by with_reducible assumption)))))))))))))) | exact And.right (And.right (And.right (And.right (by with_reducible assumption)))) | exact And.right (And.right (And.right (And.right (And.right (by with_reducible assumption))))) | exact And.right (And.right (And.right (And.right (And.right (And.right (by with_reducible assumption)))))) | exact And.right (And.right (And.right (And.right (And.right (And.right (And.right (by with_reducible assumption))))))) | exact And.right (And.right (And.right (And.right (And.right (And.right (And.right (And.right (by with_reducible assumption)))))))) | exact And.right (And.right (And.right (And.right (And.right (And.right (And.right (And.right (And.right (by with_reducible assumption))))))))) | exact And.right (And.right (And.right (And.right (And.right (And.right (And.right (And.right (And.right (And.right (by with_reducible assumption)))))))))) | exact And.right (And.right (And.right (And.right (And.right (And.right (And.right (And.right (And.right (And.right (And.right (by with_reducible assumption))))))))))) | exact And.right (And.right (And.right (And.right (And.right (And.right (And.right (And.right (And.right (And.right (And.right (And.right (by with_reducible assumption)))))))))))) | exact And.right (And.right (And.right (And.right (And.right (And.right (And.right (And.right (And.right (And.right (And.right (And.right (And.right (by with_reducible assumption))))))))))))))
local macro_rules | `(tactic| walk_at "call ref") => `(tactic| (k_here; (with_reducible show wpAny _ _ (call (Value.ref 277) _) _ _ _); k_dflt (refine box_new (by walk_at "my base") (by walk_at "my room") ?_); intro h' tk' x' bd' ll' o' k' f1' f2' f3' e1' e2' hb' e3' n1' n2' n3'; (have q1' := newsNe (by with_reducible assumption) f1'); (have q2' := newsNe (by with_reducible assumption) f2'); (have q3' := newsNe (by with_reducible assumption) f3'); (simp only [AllNe, and_true] at q1' q2' q3'); (have F'' := Fr.keeps (by with_reducible assumption) k'); (have N'' := newsMany (by with_reducible assumption) (by with_reducible assumption) k' [(x', _), (bd', o'), (ll', _)] (by simp only [List.forall_mem_cons]; exact ⟨⟨f1', e1'⟩, ⟨f2', e2'⟩, ⟨f3', e3'⟩, List.forall_mem_nil _⟩)); (simp only [List.cons_append, List.nil_append] at N''); (try k_sweep); (try dsimp only)))
local macro_rules | `(tactic| walk_at "my stepsF") => `(tactic| repeat' (first | (k_unfold; (try dsimp only)) | ((fail_if_success (with_reducible show wpAny _ _ (execs (Stmt.For _ _ _ _ _ :: _) _) _ _ _)); (walk_at "my go"); first | (k_end; wrow_close) | walk1 | (dsimp only; walk1) | (leave1; try dsimp only))))
theorem arith1 (a : Nat) : a ≠ a + 1 := by omega
theorem arith2 (a : Nat) : a ≠ a + 1 + 1 := by omega
theorem arith3 (a : Nat) : a ≠ a + 1 + 1 + 1 := by omega
theorem law_run {w : World} {mg mb : Str → Option Value} {dep un : Nat} {fr : Option (List Env)} {gd : Option (List Code)} {s : Shared} {h₀ : Heap} {L fa script : Addr} {cd : Value} {vs : List Value} {ns : List Int} {o1 o2 o3 o4 : Obj} {Q : Flow → Shared → Prop}
    {mean : ExcName → Option Value} (B : Bs w mg mb h₀) (TT : Top VG LG mean mg mb h₀) (hA : dep < 800) (hU : un < 100) (hs : h₀.IsList script vs.toArray) (hi : IntsAre vs ns) (hlen : ns.length ≤ 63)
    (F : Fr h₀ L s.heap (bindL (lawEnv L fa cd).kindOf [(Str.ofString "script", .ref script)] fun _ => none)) (N : News h₀ L s.heap [(L + 1 + 1 + 1 + 1, o4), (L + 1 + 1 + 1, o3), (L + 1 + 1, o2), (L + 1, o1)])
    (d1 : o1.data = .cell none) (d2 : o2.data = .cell none) (d3 : o3.data = .cell none) (d4 : o4.data = .cell none)
    (k : ∀ h' tk m, Fr h₀ L h' m → Q (.ret (.bool true)) { s with heap := h', toks := tk }) :
    wpAny (model PG w) (AR dep fr gd un) (execs lawStmts (lawEnv L fa cd)) Q (fun _ _ => False) s := by
  obtain ⟨X, T⟩ := B
  obtain ⟨h₁, gens, drawn, tk₁, os⟩ := s
  show wpAny _ _ (execs (_ :: _) (envOfC _ { kind := _, names := _, isGenerator := _, isCoroutine := _, more := _ } _ _ _)) _ _ _
  walk_at "my steps"
  walk1
  walk_at "my stepsF"
  rename Fr _ _ _ _ => Fz
  rename News _ _ _ _ => Nz
  rename_i D2 ws h10 hI hC hL lA hk1 hk g8 hI8 hL8 D1 h9 tk9 oA hB8 tkB tB pl h7 lB h6 h5 tkD x bd ll oo kk q1 q2 q3 q4 q5 hbx q6 m1 m2 m3 ma mb' mc bk h4 ob lo hs fs hik fi lC Dt h3 lD h2' h1' oc1 dc1 h0' oc2 dc2
  clear hI hC hL hk1 hk g8 hL8 kk q1 q2 q3 q4 q5 q6 hs fs fi lD TT
  refine' law_loops (c := D1) (pen := pl) (x := x) (bd := bd) (ll := ll) (bk := bk) (vs := ys) (ns := (ns.take 60).map fun k' => k'.fmod 1000003) (co := LCg.lst ys) (f₀ := fun _ => .none) X T hA hU hI8 (by simp; omega) (fun H e => ⟨_, e, rfl, _, rfl⟩) ?ap ?ax ?ac dc1 dc2 d3 d4 hbx hik lo Fz ?nn k
  case nn =>
    walk_at "my each"
    all_goals exact Nz _ (by k_mem)
  all_goals
    repeat' (first | exact trivial | refine Apart.cons ?_ ?_ | refine AllNeA.cons ?_ ?_)
  all_goals first
    | with_reducible assumption
    | exact arith1 _
    | exact arith2 _
    | exact arith3 _
    | exact Ne.symm (arith1 _)
    | exact Ne.symm (arith2 _)
    | exact Ne.symm (arith3 _)
    | (show @Ne Nat _ _; first | walk_at "my deep" | (refine Ne.symm ?_; walk_at "my deep") | (refine Nat.ne_of_gt ?_; walk_at "my deep") | (refine Nat.ne_of_lt ?_; walk_at "my deep"))
    | (show @Ne Nat _ _; k_ne)
    | fail "apart"
end PartLaw
section PartFin
local macro_rules | `(tactic| k_qdec) => `(tactic| decide +kernel)
theorem law0 : PySem.Challenge.rw_nz0299_01.Holds := by
  refine holds_law saidK fun said => ?_
  refine holds_open (q := viewK) (loose := [Str.ofString "PostError"]) (Xt := fun s => xlAt viewK [] s && recOk (RowW.records PySem.Challenge.rw_nz0299_01.row.toRowW) s) (XP := XL viewK []) (Yf := Hook.obs hookK) (Ya := Hook.val hookK) (YP := Hook.says hookK) (N := 4802) leftK (Hook.of hookK) (Hook.keeps hookK) (fun s e => xl_of s (Bool.and_eq_true_iff.mp e).1) XL.keeps (by rfl) (by rfl) (by rfl) (fun s e => recFacts_of (Bool.and_eq_true_iff.mp e).2) (by rfl) said (by decide +kernel) ⟨rfl, rfl, rfl, rfl, rfl, by decide +kernel⟩ ?hw ?hc
  case hw => w_witness2
  clear said
  k_go0
  rename Fr _ _ _ _ => F
  rename News _ _ _ _ => N
  rename IntsAre _ _ => hI
  rename Top _ _ _ _ _ _ => T
  rename (heapK _).In _ => KX
  rename Heap.IsList _ _ _ => hL
  rename _ = #[] => hg
  rename ¬ _ < _ => hc
  rename_i o1 o2 o3 o4 r1 r2 r3 r4
  refine wpAny_mono (law_run ⟨KX, topRead_of T⟩ T ?yA ?yU hL hI ?yl F N ?y1 ?y2 ?y3 ?y4 ?yk) (fun _ _ z => z) (fun _ _ z => z.elim)
  case yl => omega
  case y1 => assumption
  case y2 => assumption
  case y3 => assumption
  case y4 => assumption
  case yA => decide
  case yU => decide
  case yk =>
    intro h' tk m F'
    dsimp only
    k_end
    wrow_close
end PartFin
end Mine
theorem PySem.Challenge.cw_nz0299_01_holds : PySem.Challenge.rw_nz0299_01.Holds := by
  exact Mine.law0
